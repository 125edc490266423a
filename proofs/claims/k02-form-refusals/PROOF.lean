import PyProof.Rows.All
import Wide.All
import OpenK.AllK
import Wide.FinOn
import HandS.ForMost
import HandS.Flow
import HandS.IsInst
import HandS.Wide
import HandS.Walk
import PyProof.Rows.IntBool
import HandS.Property
import HandS.Star
import HandS.OwnEq
import HandS.SetFor
import KE.GoesEnum
import KE.GoesMore
import HandS.Strs
import HandS.Deep
import HandS.TupAny
import KE.KRevSl
import KE.KOpsOwn
import HandS.ForExc
import HandS.FStr
import HandS.ExcField
import HandS.ExcIs
import HandS.ExcSuper
import KE.KExcSuper
import KE.KExcIs
import HandS.OwnIter
import HandS.IterNext
import HandS.Text
import HandS.Zip
import HandS.HotCalls
import PyProof.ReprRoads
import HandS.Ends
import PyProof.AutoSeq1
import HandS.IterVal
import OpenK.KMake
import HandS.Defaults
import HandS.NoneIn
import HandS.Style
import PyProof.ReprNest
import PyProof.ReprReads
import PyProof.ReprHeads
import HandS.ClsMeth
import HandS.DictComp
import HandS.WideBits
import HandS.Finally
import OpenK.KWalk
import HandS.RaiseMore
import HandS.SlotsOwn
import HandS.More
import KE.KCallOwn
import PyProof.ReprDict
import KE.KStrOpen
import PySem.Challenge.RW_drawnanew_k02_form_refusals
set_option Elab.async false
set_option linter.all false
set_option maxRecDepth 100000
set_option maxHeartbeats 4000000
/-! XBase: readings that compute, over the hand layer; the heap cut into a part that only grows and cells that change. -/
namespace XL
open PySem PySem.Spec PyProof.Rows L2
abbrev St := L2.St

/-! ### a reading may be exchanged for a stronger one -/
theorem pe_str {X : Cx} {e : Expr} {t t' : TE} (h : PE X e t) (k : ∀ σ H Q, t' σ H Q → t σ H Q) : PE X e t' := ⟨fun pins s σ H Q I q => h.run pins s σ H Q I (k σ H Q q)⟩
theorem pt_str {X : Cx} {e : Expr} {t t' : TT} (h : PT X e t) (k : ∀ σ H Q, t' σ H Q → t σ H Q) : PT X e t' := ⟨fun pins s σ H Q I q => h.run pins s σ H Q I (k σ H Q q)⟩
theorem ps_str {X : Cx} {e : Stmt} {t t' : TS} (h : PS X e t) (k : ∀ D σ H, t' D σ H → t D σ H) : PS X e t' := ⟨fun pins s σ H D I q => h.run pins s σ H D I (k D σ H q)⟩
theorem or_str {X : Cx} {f : Value → Value → Sem Value} {r r' : R2} (h : OpR X f r) (k : ∀ x y H Q, r' x y H Q → r x y H Q) : OpR X f r' := fun pins s σ H x y v u Q I rx ry q => h pins s σ H x y v u Q I rx ry (k x y H Q q)
theorem cr_str {X : Cx} {f : Value} {r r' : List V → Hp → VK → Prop} (h : CallR X f r) (k : ∀ xs H Q, r' xs H Q → r xs H Q) : CallR X f r' := fun pins s σ H xs us Q I rx q => h pins s σ H xs us Q I rx (k xs H Q q)
theorem OpR.or {X : Cx} {f : Value → Value → Sem Value} {r r' : R2} (h : OpR X f r) (h' : OpR X f r') : OpR X f (fun x y H Q => r x y H Q ∨ r' x y H Q) := by
  intro pins s σ H x y v u Q I rx ry q
  rcases q with q | q
  · exact h pins s σ H x y v u Q I rx ry q
  · exact h' pins s σ H x y v u Q I rx ry q

/-! ### names -/
def nth : St → Nat → Option V
  | [], _ => none
  | x :: _, 0 => x
  | _ :: r, n + 1 => nth r n
theorem nth_get : ∀ {σ : St} {i : Nat} {v : V}, nth σ i = some v → σ[i]? = some (some v)
  | [], _, _, h => nomatch h
  | _ :: _, 0, _, h => congrArg some h
  | _ :: r, n + 1, _, h => by
    rw [List.getElem?_cons_succ]
    exact nth_get (σ := r) h
def xVar (i : Nat) : TE := fun σ H Q => match nth σ i with
  | some v => Q v H
  | none => False
section
variable {X : Cx} {a b c : Expr} {ta tb tc : TE} {pos : Pos} {tA tB' : TT} {rest : List Expr}
theorem xv (i : Nat) {x : Str} {pos : Pos} (hN : X.N[i]? = some x := by rfl) (hv : Vis X.env.scope x := by first | exact Or.inl rfl | exact Or.inr (Or.inl rfl) | exact Or.inr (Or.inr rfl)) (hd : (x == ("__debug__" : Str)) = false := by decide)
    (hcd : (x == ("__classdict__" : Str)) = false := by decide) : PE X (.Name x pos) (xVar i) := pe_str (pe_var hN hv hd hcd) fun σ H Q h => by
  unfold xVar at h
  cases e : nth σ i with
  | none => rw [e] at h; exact h.elim
  | some v => rw [e] at h; exact ⟨v, nth_get e, h⟩

/-! ### arithmetic -/
theorem op_mul_ib : OpR X (binaryOp .Mult) (fun x y H Q => ∃ i k, x = .int i ∧ y = .bl k ∧ Q (.int (i * b2i k)) H) := by
  intro pins s σ H x y v u Q I rx ry h
  obtain ⟨i, k, rfl, rfl, q⟩ := h
  obtain ⟨t, rfl⟩ := rx
  cases ry
  refine PySem.IntBool.mul_int_bool ?_
  have e : (if k = true then (1 : Int) else 0) = b2i k := by cases k <;> rfl
  rw [e]
  exact ⟨.int (i * b2i k), H, I.tok _, ⟨_, rfl⟩, q⟩
def yAdd : R2 := fun x y H Q => match x, y with
  | .int i, .int j => Q (.int (i + j)) H
  | .int i, .bl k => Q (.int (i + b2i k)) H
  | .str a, .str b => a.length + b.length ≤ sizeLine ∧ ∀ r : Str, r = a ++ b → Q (.str r) H
  | .ref l, .ref b => rCat (.ref l) (.ref b) H Q
  | _, _ => False
theorem op_addY : OpR X (binaryOp .Add) yAdd := by
  refine or_str (OpR.or (op_add (X := X)) (OpR.or (op_add_ib (X := X)) (OpR.or (op_add_str (X := X)) (op_cat (X := X))))) fun x y H Q h => ?_
  unfold yAdd at h
  split at h
  · exact .inl ⟨_, _, rfl, rfl, h⟩
  · exact .inr (.inl ⟨_, _, rfl, rfl, h⟩)
  · exact .inr (.inr (.inl ⟨_, _, rfl, rfl, h.1, h.2 _ rfl⟩))
  · exact .inr (.inr (.inr h))
  · exact h.elim
def ySub : R2 := fun x y H Q => match x, y with
  | .int i, .int j => Q (.int (i - j)) H
  | _, _ => False
theorem op_subY : OpR X (binaryOp .Sub) ySub := by
  refine or_str (op_sub (X := X)) fun x y H Q h => ?_
  unfold ySub at h
  split at h
  · exact ⟨_, _, rfl, rfl, h⟩
  · exact h.elim
def yMul : R2 := fun x y H Q => match x, y with
  | .int i, .int j => CMul i j ∧ Q (.int (i * j)) H
  | .int i, .bl k => Q (.int (i * b2i k)) H
  | .ref l, .int k => rRep (.ref l) (.int k) H Q
  | _, _ => False
theorem op_mulY : OpR X (binaryOp .Mult) yMul := by
  refine or_str (OpR.or (op_mul (X := X)) (OpR.or (op_mul_ib (X := X)) (op_rep (X := X)))) fun x y H Q h => ?_
  unfold yMul at h
  split at h
  · exact .inl ⟨_, _, rfl, rfl, h.1, h.2⟩
  · exact .inr (.inl ⟨_, _, rfl, rfl, h⟩)
  · exact .inr (.inr h)
  · exact h.elim
def yMod : R2 := fun x y H Q => match x, y with
  | .int i, .int j => 0 < j ∧ ∀ r : Int, r = i % j → 0 ≤ r → r < j → Q (.int r) H
  | _, _ => False
theorem op_modY : OpR X (binaryOp .Mod) yMod := by
  refine or_str (op_mod (X := X)) fun x y H Q h => ?_
  unfold yMod at h
  split at h
  · exact ⟨_, _, rfl, rfl, h.1, h.2 _ rfl (Int.emod_nonneg _ (by have := h.1; omega)) (Int.emod_lt_of_pos _ h.1)⟩
  · exact h.elim
def yDiv : R2 := fun x y H Q => match x, y with
  | .int i, .int j => (0 < j ∧ j < 1073741824) ∧ ∀ r : Int, r = i / j → (0 ≤ i → 0 ≤ r) → Q (.int r) H
  | _, _ => False
theorem op_divY : OpR X (binaryOp .FloorDiv) yDiv := by
  refine or_str (op_fdiv (X := X)) fun x y H Q h => ?_
  unfold yDiv at h
  split at h
  · exact ⟨_, _, rfl, rfl, h.1, h.2 _ rfl (fun h0 => Int.ediv_nonneg h0 (by have := h.1.1; omega))⟩
  · exact h.elim
def yPow : R2 := fun x y H Q => match x, y with
  | .int i, .int j => CPow i j ∧ ∀ r : Int, r = i ^ j.toNat → Q (.int r) H
  | _, _ => False
theorem op_powY : OpR X (binaryOp .Pow) yPow := by
  refine or_str (op_pow (X := X)) fun x y H Q h => ?_
  unfold yPow at h
  split at h
  · exact ⟨_, _, rfl, rfl, h.1, h.2 _ rfl⟩
  · exact h.elim

/-! ### comparisons -/
def yCmp (p : Int → Int → Bool) : R2 := fun x y H Q => match x, y with
  | .int i, .int j => Q (.bl (p i j)) H
  | _, _ => False
theorem yCmp_rI {p : Int → Int → Bool} {x y : V} {H : Hp} {Q : VK} (h : yCmp p x y H Q) : rI0 (fun i j => .bl (p i j)) x y H Q := by
  unfold yCmp at h
  split at h
  · exact ⟨_, _, rfl, rfl, h⟩
  · exact h.elim
theorem op_ltY : OpR X (compareOp .Lt) (yCmp fun i j => decide (i < j)) := or_str (op_lt (X := X)) fun _ _ _ _ h => yCmp_rI h
theorem op_leY : OpR X (compareOp .LtE) (yCmp fun i j => decide (i ≤ j)) := or_str (op_le (X := X)) fun _ _ _ _ h => yCmp_rI h
theorem op_gtY : OpR X (compareOp .Gt) (yCmp fun i j => decide (j < i)) := or_str (op_gt (X := X)) fun _ _ _ _ h => yCmp_rI h
theorem op_geY : OpR X (compareOp .GtE) (yCmp fun i j => decide (j ≤ i)) := or_str (op_ge (X := X)) fun _ _ _ _ h => yCmp_rI h
def yEq (K : PySem.W.Frag) : R2 := fun x y H Q => match x, y with
  | .int i, .int j => Q (.bl (decide (i = j))) H
  | .str i, .str j => Q (.bl (decide (i = j))) H
  | .bl i, .bl j => Q (.bl (decide (i = j))) H
  | .ref a, .ref b => rEqD K (.ref a) (.ref b) H Q
  | x, y => scal x y = true ∧ Q (.bl (decide (x = y))) H
def yNe (K : PySem.W.Frag) : R2 := fun x y H Q => match x, y with
  | .int i, .int j => Q (.bl (!decide (i = j))) H
  | .str i, .str j => Q (.bl (!decide (i = j))) H
  | .bl i, .bl j => Q (.bl (!decide (i = j))) H
  | .ref a, .ref b => rNeD K (.ref a) (.ref b) H Q
  | x, y => scal x y = true ∧ Q (.bl (!decide (x = y))) H
theorem deci {i j : Int} : decide (V.int i = V.int j) = decide (i = j) := by by_cases h : i = j <;> simp [h]
theorem decs {i j : Str} : decide (V.str i = V.str j) = decide (i = j) := by by_cases h : i = j <;> simp [h]
theorem decb {i j : Bool} : decide (V.bl i = V.bl j) = decide (i = j) := by by_cases h : i = j <;> simp [h]
theorem op_eqY (hu : X.A.units + 64 < cLine) : OpR X (compareOp .Eq) (yEq X.K) := by
  refine or_str (OpR.or (op_eq (X := X)) (op_eqD hu)) fun x y H Q h => ?_
  unfold yEq at h
  split at h
  · exact .inl ⟨rfl, by rw [deci]; exact h⟩
  · exact .inl ⟨rfl, by rw [decs]; exact h⟩
  · exact .inl ⟨rfl, by rw [decb]; exact h⟩
  · exact .inr h
  · exact .inl h
theorem op_neY (hu : X.A.units + 64 < cLine) : OpR X (compareOp .NotEq) (yNe X.K) := by
  refine or_str (OpR.or (op_ne (X := X)) (op_neD hu)) fun x y H Q h => ?_
  unfold yNe at h
  split at h
  · exact .inl ⟨rfl, by rw [deci]; exact h⟩
  · exact .inl ⟨rfl, by rw [decs]; exact h⟩
  · exact .inl ⟨rfl, by rw [decb]; exact h⟩
  · exact .inr h
  · exact .inl h

/-! ### tests -/
/-- a bool as a test -/
def xB (t : TE) : TT := fun σ H Q => t σ H fun x H1 => match x with
  | .bl c => Q c H1
  | _ => False
theorem pe_mono {X : Cx} {e : Expr} {t : TE} (_h : PE X e t) : True := trivial
theorem xt_cmp {op : CmpOp} {r : R2} (ho : OpR X (compareOp op) r) (ha : PE X a ta) (hb : PE X b tb) (hm : behindInMarks op b = false) : PT X (.Compare a [op] [b] pos) (xB (tOp r ta tb)) := by
  refine ⟨fun pins s σ H Q I h => ?_⟩
  refine wpAny_isTrue_Compare1 (thn (ha.run pins s σ H _ I h) fun v s1 ⟨x, H1, I1, r1, q1⟩ => thn (hb.run pins s1 σ H1 _ I1 q1) fun u s2 ⟨y, H2, I2, r2, q2⟩ =>
    thn (ho pins s2 σ H2 x y v u _ I2 r1 r2 q2) fun c s3 ⟨z, H3, I3, r3, q3⟩ => ?_) hm
  cases z with
  | bl k =>
    cases r3
    exact wpAny_truthy_bool ⟨H3, I3, q3⟩
  | _ => exact False.elim q3
theorem xt_val {e : Expr} {t : TE} (h : PE X e t) (he : ∀ whole, isTrue e X.env whole = (do let v ← whole; standAt e.pos; holding [v] (truthy v)) := by intro _; rfl) : PT X e (xB t) := by
  refine ⟨fun pins s σ H Q I hw => ?_⟩
  refine isTrue_plain (thn (h.run pins s σ H _ I hw) fun v s1 ⟨x, H1, I1, r1, q1⟩ => ?_) (he _)
  cases x with
  | bl k =>
    cases r1
    exact wpAny_truthy_bool ⟨H1, I1, q1⟩
  | _ => exact False.elim q1
/-- the truth of a value -/
def yTru (K : PySem.W.Frag) (x : V) (H : Hp) (Q : Bool → Hp → Prop) : Prop := match x with
  | .bl c => Q c H
  | .int i => Q (i != 0) H
  | .non => Q false H
  | x => ∃ k, TruV K x H k ∧ Q k H
def xTru (K : PySem.W.Frag) (t : TE) : TT := fun σ H Q => t σ H fun x H1 => yTru K x H1 Q
theorem xt_tru (ha : PE X a ta) (he : ∀ whole, isTrue a X.env whole = (do let v ← whole; standAt a.pos; holding [v] (truthy v)) := by intro _; rfl) : PT X a (xTru X.K ta) := by
  have hq : PE X a (fun σ H Q => ta σ H Q) := ha
  refine ⟨fun pins s σ H Q I hw => ?_⟩
  refine isTrue_plain (thn (ha.run pins s σ H _ I hw) fun v s1 ⟨x, H1, I1, r1, q1⟩ => ?_) (he _)
  have q2 : ∃ k, TruV X.K x H1 k ∧ Q k H1 := by
    change yTru X.K x H1 Q at q1
    unfold yTru at q1
    split at q1
    · exact ⟨_, rfl, q1⟩
    · exact ⟨_, rfl, q1⟩
    · exact ⟨_, rfl, q1⟩
    · exact q1
  exact tru_ok pins s1 σ H1 x v Q I1 r1 q2
def xAnd (t u : TT) : TT := fun σ H Q => t σ H fun c H1 => (c = true → u σ H1 Q) ∧ (c = false → Q false H1)
def xOr (t u : TT) : TT := fun σ H Q => t σ H fun c H1 => (c = true → Q true H1) ∧ (c = false → u σ H1 Q)
theorem xw_and (ha : PT X a tA) (hb : PW X (.BoolOp .And (b :: rest) pos) tB') : PW X (.BoolOp .And (a :: b :: rest) pos) (xAnd tA tB') := by
  refine ⟨fun wh pins s0 σ H Q J h => ?_⟩
  refine isTrue_and (thn (ha.run pins s0 σ H _ J h) fun k s2 ⟨H2, J2, q2⟩ => ?_)
  cases k with
  | true => exact hb.run wh pins s2 σ H2 Q J2 (q2.1 rfl)
  | false => exact ⟨H2, J2, q2.2 rfl⟩
theorem xw_or (ha : PT X a tA) (hb : PW X (.BoolOp .Or (b :: rest) pos) tB') : PW X (.BoolOp .Or (a :: b :: rest) pos) (xOr tA tB') := by
  refine ⟨fun wh pins s0 σ H Q J h => ?_⟩
  refine isTrue_or (thn (ha.run pins s0 σ H _ J h) fun k s2 ⟨H2, J2, q2⟩ => ?_)
  cases k with
  | true => exact ⟨H2, J2, q2.1 rfl⟩
  | false => exact hb.run wh pins s2 σ H2 Q J2 (q2.2 rfl)
/-- and, or, not as values: of bools -/
def xAndV (ta tb : TE) : TE := fun σ H Q => ta σ H fun x H1 => match x with
  | .bl c => (c = true → tb σ H1 Q) ∧ (c = false → Q (.bl false) H1)
  | _ => False
def xOrV (ta tb : TE) : TE := fun σ H Q => ta σ H fun x H1 => match x with
  | .bl c => (c = true → Q (.bl true) H1) ∧ (c = false → tb σ H1 Q)
  | _ => False
def xNotV (ta : TE) : TE := fun σ H Q => ta σ H fun x H1 => match x with
  | .bl c => Q (.bl (!c)) H1
  | _ => False
theorem xe_and (ha : PE X a ta) (hb : PE X (.BoolOp .And (b :: rest) pos) tb) : PE X (.BoolOp .And (a :: b :: rest) pos) (xAndV ta tb) := by
  refine ⟨fun pins s0 σ H Q J h => ?_⟩
  refine BoolOp_and (thn (ha.run pins s0 σ H _ J h) fun v s2 ⟨x, H2, J2, r2, q2⟩ => ?_)
  cases x with
  | bl k =>
    cases r2
    refine wpAny_truthy_bool ?_
    cases k with
    | true => exact hb.run pins s2 σ H2 Q J2 (q2.1 rfl)
    | false => exact ⟨.bl false, H2, J2, rfl, q2.2 rfl⟩
  | _ => exact False.elim q2
theorem xe_or (ha : PE X a ta) (hb : PE X (.BoolOp .Or (b :: rest) pos) tb) : PE X (.BoolOp .Or (a :: b :: rest) pos) (xOrV ta tb) := by
  refine ⟨fun pins s0 σ H Q J h => ?_⟩
  refine BoolOp_or (thn (ha.run pins s0 σ H _ J h) fun v s2 ⟨x, H2, J2, r2, q2⟩ => ?_)
  cases x with
  | bl k =>
    cases r2
    refine wpAny_truthy_bool ?_
    cases k with
    | true => exact ⟨.bl true, H2, J2, rfl, q2.1 rfl⟩
    | false => exact hb.run pins s2 σ H2 Q J2 (q2.2 rfl)
  | _ => exact False.elim q2
theorem xe_not (ha : PE X a ta) : PE X (.UnaryOp .Not a pos) (xNotV ta) := by
  refine ⟨fun pins s0 σ H Q J h => ?_⟩
  refine UnaryOp_ (thn (ha.run pins s0 σ H _ J h) fun v s2 ⟨x, H2, J2, r2, q2⟩ => ?_)
  cases x with
  | bl k =>
    cases r2
    exact not_of (wpAny_truthy_bool ⟨.bl (!k), H2, J2, rfl, q2⟩)
  | _ => exact False.elim q2
/-- a if t else b -/
def xIf (t : TT) (ta tb : TE) : TE := fun σ H Q => t σ H fun c H1 => (c = true → ta σ H1 Q) ∧ (c = false → tb σ H1 Q)
theorem xe_if {c : Expr} (hc : PT X c tA) (ha : PE X a ta) (hb : PE X b tb) : PE X (.IfExp c a b pos) (xIf tA ta tb) := by
  refine ⟨fun pins s0 σ H Q J h => ?_⟩
  refine wpAny_IfExp (thn (hc.run pins s0 σ H _ J h) fun k s2 ⟨H2, J2, q2⟩ => ?_)
  cases k with
  | true => exact ha.run pins s2 σ H2 Q J2 (q2.1 rfl)
  | false => exact hb.run pins s2 σ H2 Q J2 (q2.2 rfl)
/-- if t: .. else: .. -/
def xIfS (c : TT) (t u : TS) : TS := fun D σ H => c σ H fun b H1 => (b = true → t D σ H1) ∧ (b = false → u D σ H1)
theorem xs_if {c : Expr} {as bs : List Stmt} {tc : TT} {t u : TS} (hc : PT X c tc) (ha : PSs X as t) (hb : PSs X bs u) : PS X (.If c as bs pos) (xIfS tc t u) := by
  refine ⟨fun pins s0 σ H D J h => ?_⟩
  refine wpAny_If (thn (hc.run pins s0 σ H _ J h) fun k s2 ⟨H2, J2, q2⟩ => ?_)
  cases k with
  | true => exact ha.run pins s2 σ H2 D J2 (q2.1 rfl)
  | false => exact hb.run pins s2 σ H2 D J2 (q2.2 rfl)

/-! ### calls of built-ins -/
def yLen (K : PySem.W.Frag) : List V → Hp → VK → Prop := fun xs H Q => match xs with
  | [.str y] => y.length ≤ sizeLine ∧ Q (.int y.length) H
  | [.ref p] => ∃ ys, (SqL K H p ys ∨ SqT K H p ys) ∧ Q (.int ys.length) H
  | _ => False
theorem cr_len : CallR X (.builtin "len") (yLen X.K) := by
  refine cr_str (call_len (X := X)) fun xs H Q h => ?_
  unfold yLen at h
  split at h
  · exact ⟨_, _, rfl, ⟨h.1, rfl⟩, h.2⟩
  · obtain ⟨ys, hy, q⟩ := h
    rcases hy with hy | hy
    · exact ⟨_, _, rfl, .inl ⟨ys, hy, rfl⟩, q⟩
    · exact ⟨_, _, rfl, .inr ⟨ys, hy, rfl⟩, q⟩
  · exact h.elim
def yInt : List V → Hp → VK → Prop := fun xs H Q => match xs with
  | [.int i] => Q (.int i) H
  | [.bl k] => Q (.int (if k then 1 else 0)) H
  | [.str z] => ∃ n, PySem.intText? z = some n ∧ z.length ≤ 640 ∧ Q (.int n) H
  | _ => False
theorem cr_int : CallR X (.type "int") yInt := by
  refine cr_str (CallR.or (call_int1 (X := X)) (call_int_str (X := X))) fun xs H Q h => ?_
  unfold yInt at h
  split at h
  · exact .inl (.inl ⟨_, rfl, h⟩)
  · exact .inl (.inr ⟨_, rfl, h⟩)
  · obtain ⟨n, h1, h2, q⟩ := h
    exact .inr ⟨_, n, rfl, h1, h2, q⟩
  · exact h.elim
def yAbs : List V → Hp → VK → Prop := fun xs H Q => match xs with
  | [.int i] => Q (.int i.natAbs) H
  | _ => False
theorem cr_abs : CallR X (.builtin "abs") yAbs := by
  refine cr_str (call_abs (X := X)) fun xs H Q h => ?_
  unfold yAbs at h
  split at h
  · rename_i i
    refine ⟨i, rfl, ?_⟩
    have e : (if i < 0 then -i else i) = (i.natAbs : Int) := by split <;> omega
    rw [e]
    exact h
  · exact h.elim
def yStr : List V → Hp → VK → Prop := fun xs H Q => match xs with
  | [.int i] => i.natAbs.log2 < 1920 ∧ Q (.str (toString i)) H
  | _ => False
theorem cr_strI : CallR X (.type "str") yStr := by
  refine cr_str (call_str_int (X := X)) fun xs H Q h => ?_
  unfold yStr at h
  split at h
  · exact ⟨_, rfl, h.1, h.2⟩
  · exact h.elim
def yIx (K : PySem.W.Frag) : R2 := fun x y H Q => match x, y with
  | .ref p, .int i => ∃ xs v, (SqL K H p xs ∨ SqT K H p xs) ∧ atI xs i = some v ∧ Q v H
  | .str z, .int i => ∃ c, z.length ≤ sizeLine ∧ atI z.cps.toList i = some c ∧ Q (.str ⟨#[c]⟩) H
  | _, _ => False
theorem ix_y : IxR X (yIx X.K) := by
  intro value slice pins s σ H x y v u Q I rx ry h hs
  refine ix_seq (X := X) value slice pins s σ H x y v u Q I rx ry ?_ hs
  unfold yIx at h
  split at h
  · obtain ⟨xs, z, h1, h2, q⟩ := h
    rcases h1 with h1 | h1
    · exact .inl ⟨_, xs, _, z, rfl, rfl, h1, h2, q⟩
    · exact .inr (.inl ⟨_, xs, _, z, rfl, rfl, h1, h2, q⟩)
  · obtain ⟨k, h1, h2, q⟩ := h
    exact .inr (.inr ⟨_, _, k, rfl, rfl, h1, h2, q⟩)
  · exact h.elim
end

/-! ### the heap: what only grows, and the cells that change -/
def Sep (G : Hp) (M : List (Addr × HO)) (H : Hp) : Prop := Same G H ∧ (∀ p ∈ M, H p.1 = some p.2 ∧ G p.1 = none) ∧ (M.map (·.1)).Nodup
section
variable {G G' H H' : Hp} {M : List (Addr × HO)} {p a b : Addr} {o o' u : HO}
theorem same_upd (h : H p = none) : Same H (upd H p o) := fun b x e => by
  rw [upd_ne (ne_of_none e h)]
  exact e
theorem sep0 : Sep H [] H := ⟨Same.refl H, (fun _ h => nomatch h), List.nodup_nil⟩
theorem Sep.st (S : Sep G M H) (h : G a = some o) : H a = some o := S.1 a o h
theorem Sep.hd (S : Sep G ((a, o) :: M) H) : H a = some o := (S.2.1 _ List.mem_cons_self).1
theorem Sep.at (S : Sep G M H) (h : (a, o) ∈ M) : H a = some o := (S.2.1 _ h).1
theorem Sep.fresh (S : Sep G M H) (h : H p = none) : G p = none := S.1.free h
theorem Sep.new (S : Sep G M H) (h : H p = none) : Sep G ((p, o) :: M) (upd H p o) := by
  refine ⟨S.1.trans (same_upd h), fun q hq => ?_, ?_⟩
  · rcases List.mem_cons.mp hq with rfl | hq
    · exact ⟨upd_same, S.fresh h⟩
    · exact ⟨same_upd h _ _ (S.2.1 q hq).1, (S.2.1 q hq).2⟩
  · rw [List.map_cons, List.nodup_cons]
    refine ⟨fun hm => ?_, S.2.2⟩
    obtain ⟨q, hq, e⟩ := List.mem_map.mp hm
    have z := (S.2.1 q hq).1
    rw [e, h] at z
    cases z
theorem Sep.newG (S : Sep G M H) (h : H p = none) : Sep (upd G p o) M (upd H p o) := by
  refine ⟨fun b x e => ?_, fun q hq => ?_, S.2.2⟩
  · by_cases hb : b = p
    · subst hb
      rw [upd_same] at e ⊢
      exact e
    · rw [upd_ne hb] at e ⊢
      exact S.1 b x e
  · have z := S.2.1 q hq
    refine ⟨same_upd h _ _ z.1, ?_⟩
    rw [upd_ne (ne_of_none z.1 h)]
    exact z.2
theorem Sep.grow (S : Sep G M H) (h : H p = none) : Same G (upd G p o) := same_upd (S.fresh h)
theorem Sep.set (S : Sep G ((a, o) :: M) H) : Sep G ((a, o') :: M) (upd H a o') := by
  have hn := S.2.2
  rw [List.map_cons, List.nodup_cons] at hn
  have ha := S.2.1 _ List.mem_cons_self
  refine ⟨fun b x e => ?_, fun q hq => ?_, S.2.2⟩
  · rw [upd_ne (ne_of_none e ha.2)]
    exact S.1 b x e
  · rcases List.mem_cons.mp hq with rfl | hq
    · exact ⟨upd_same, ha.2⟩
    · refine ⟨?_, (S.2.1 q (List.mem_cons_of_mem _ hq)).2⟩
      rw [upd_ne (show q.1 ≠ a from fun e => hn.1 (by have z : q.1 ∈ M.map (·.1) := List.mem_map_of_mem hq
                                                      rw [e] at z; exact z))]
      exact (S.2.1 q (List.mem_cons_of_mem _ hq)).1
theorem Sep.frz (S : Sep G ((a, o) :: M) H) : Sep (upd G a o) M H := by
  have hn := S.2.2
  rw [List.map_cons, List.nodup_cons] at hn
  have ha := S.2.1 _ List.mem_cons_self
  refine ⟨fun b x e => ?_, fun q hq => ?_, hn.2⟩
  · by_cases hb : b = a
    · subst hb
      rw [upd_same] at e
      cases e
      exact ha.1
    · rw [upd_ne hb] at e
      exact S.1 b x e
  · have z := S.2.1 q (List.mem_cons_of_mem _ hq)
    refine ⟨z.1, ?_⟩
    rw [upd_ne (show q.1 ≠ a from fun e => hn.1 (by have z : q.1 ∈ M.map (·.1) := List.mem_map_of_mem hq
                                                    rw [e] at z; exact z))]
    exact z.2
theorem Sep.none (S : Sep G ((a, o) :: M) H) : G a = none := (S.2.1 _ List.mem_cons_self).2
theorem Sep.frzS (S : Sep G ((a, o) :: M) H) : Same G (upd G a o) := same_upd S.none
theorem Sep.drop {q : Addr × HO} (S : Sep G (q :: M) H) : Sep G M H := by
  have hn := S.2.2
  rw [List.map_cons, List.nodup_cons] at hn
  exact ⟨S.1, fun p hp => S.2.1 p (List.mem_cons_of_mem _ hp), hn.2⟩
theorem Sep.perm {M' : List (Addr × HO)} (S : Sep G M H) (h : M.Perm M') : Sep G M' H :=
  ⟨S.1, fun q hq => S.2.1 q (h.mem_iff.mpr hq), (h.map _).nodup_iff.mp S.2.2⟩
theorem Sep.sw {q r : Addr × HO} (S : Sep G (q :: r :: M) H) : Sep G (r :: q :: M) H := S.perm (List.Perm.swap _ _ _)
theorem same_l {K : PySem.W.Frag} {xs : List V} (e : Same H H') (h : SqL K H a xs) : SqL K H' a xs := e.seq h
theorem same_t {K : PySem.W.Frag} {xs : List V} (e : Same H H') (h : SqT K H a xs) : SqT K H' a xs := by
  rcases h with (h | ⟨o, h⟩) | h
  · exact .inl (.inl (e _ _ h))
  · exact .inl (.inr ⟨o, e _ _ h⟩)
  · exact .inr h
theorem Sep.l {K : PySem.W.Frag} {xs : List V} (S : Sep G M H) (h : SqL K G a xs) : SqL K H a xs := same_l S.1 h
theorem Sep.t {K : PySem.W.Frag} {xs : List V} (S : Sep G M H) (h : SqT K G a xs) : SqT K H a xs := same_t S.1 h
end
mutual
theorem dp_same {K : PySem.W.Frag} {H H' : Hp} (e : Same H H') : ∀ {d : PyData} {v : V}, Dp K H v d → Dp K H' v d
  | _, _, .non => .non
  | _, _, .bl b => .bl b
  | _, _, .int i => .int i
  | _, _, .str x => .str x
  | _, _, .lst h hs => .lst (same_l e h) (dpa_same e hs)
  | _, _, .tup h hs => .tup (same_t e h) (dpa_same e hs)
theorem dpa_same {K : PySem.W.Frag} {H H' : Hp} (e : Same H H') : ∀ {ds : List PyData} {vs : List V}, DpAll K H vs ds → DpAll K H' vs ds
  | _, _, .nil => .nil
  | _, _, .cons h hs => .cons (dp_same e h) (dpa_same e hs)
end

/-! ### loops by what has been gone through -/
theorem take_pre {α : Type} {xs : List α} {i : Nat} {x : α} (h : xs[i]? = some x) : xs = xs.take i ++ x :: xs.drop (i + 1) ∧ xs.take (i + 1) = xs.take i ++ [x] := by
  have hi : i < xs.length := (List.getElem?_eq_some_iff.mp h).1
  have e : xs[i] = x := (List.getElem?_eq_some_iff.mp h).2
  refine ⟨?_, ?_⟩
  · rw [← e, List.getElem_cons_drop, List.take_append_drop]
  · rw [List.take_add_one, h]
    rfl
section
variable {K : PySem.W.Frag} {a : Addr} {xs : List V} {g : TG} {tb : TS} {D : Ends} {σ : L2.St} {H : Hp}
theorem for_pre (Pv : List V → L2.St → Hp → Prop) (h0 : Pv [] σ H) (hl : ∀ pre σ H, Pv pre σ H → SqL K H a xs)
    (hs : ∀ pre x post σ H, xs = pre ++ x :: post → Pv pre σ H → g x σ H fun σ2 H2 => tb { D with nx := Pv (pre ++ [x]), ct := Pv (pre ++ [x]), bk := D.nx } σ2 H2) (hd : ∀ σ H, Pv xs σ H → D.nx σ H) :
    ∃ W : Nat → Nat → L2.St → Hp → Prop, (∃ m, W 0 m σ H) ∧ ∀ i m σ H, W i m σ H →
      ((Itl K a).stop i H ∧ D.nx σ H) ∨ ((Itl K a).go i H ∧ ∃ N : L2.St → Hp → Prop, (∀ σ' H', N σ' H' → ∃ m', m' < m ∧ W (i + 1) m' σ' H') ∧ ∀ x H', (Itl K a).yld i H x H' → g x σ H' fun σ2 H2 => tb { D with nx := N, ct := N, bk := D.nx } σ2 H2) :=
  for_list (fun i => Pv (xs.take i)) h0 (fun i σ H _ p => hl _ σ H p) (fun i x σ H hx p => by
    rw [(take_pre hx).2]
    exact hs _ x _ σ H (take_pre hx).1 p) (fun σ H p => hd σ H (by rw [List.take_length] at p; exact p))
theorem for_preT (Pv : List V → L2.St → Hp → Prop) (h0 : Pv [] σ H) (hl : ∀ pre σ H, Pv pre σ H → SqT K H a xs)
    (hs : ∀ pre x post σ H, xs = pre ++ x :: post → Pv pre σ H → g x σ H fun σ2 H2 => tb { D with nx := Pv (pre ++ [x]), ct := Pv (pre ++ [x]), bk := D.nx } σ2 H2) (hd : ∀ σ H, Pv xs σ H → D.nx σ H) :
    ∃ W : Nat → Nat → L2.St → Hp → Prop, (∃ m, W 0 m σ H) ∧ ∀ i m σ H, W i m σ H →
      ((Itt K a).stop i H ∧ D.nx σ H) ∨ ((Itt K a).go i H ∧ ∃ N : L2.St → Hp → Prop, (∀ σ' H', N σ' H' → ∃ m', m' < m ∧ W (i + 1) m' σ' H') ∧ ∀ x H', (Itt K a).yld i H x H' → g x σ H' fun σ2 H2 => tb { D with nx := N, ct := N, bk := D.nx } σ2 H2) :=
  for_tup (fun i => Pv (xs.take i)) h0 (fun i σ H _ p => hl _ σ H p) (fun i x σ H hx p => by
    rw [(take_pre hx).2]
    exact hs _ x _ σ H (take_pre hx).1 p) (fun σ H p => hd σ H (by rw [List.take_length] at p; exact p))
/-- for i, x in enumerate(xs) -/
theorem for_enum {i j : Nat} (Pv : List V → L2.St → Hp → Prop) (h0 : Pv [] σ H) (hl : ∀ pre σ H, Pv pre σ H → SqL K H a xs)
    (hs : ∀ pre x post σ H T, xs = pre ++ x :: post → Pv pre σ H → H T = none →
      tb { D with nx := Pv (pre ++ [x]), ct := Pv (pre ++ [x]), bk := D.nx } ((σ.set i (some (.int (pre.length : Nat)))).set j (some x)) (upd H T (.tup [.int (pre.length : Nat), x]))) (hd : ∀ σ H, Pv xs σ H → D.nx σ H) :
    ∃ W : Nat → Nat → L2.St → Hp → Prop, (∃ m, W 0 m σ H) ∧ ∀ k m σ H, W k m σ H →
      ((Ite K a).stop k H ∧ D.nx σ H) ∨ ((Ite K a).go k H ∧ ∃ N : L2.St → Hp → Prop, (∀ σ' H', N σ' H' → ∃ m', m' < m ∧ W (k + 1) m' σ' H') ∧ ∀ x H', (Ite K a).yld k H x H' →
        (gTup K 2 (gCons (gName i) (gCons (gName j) gNil))) x σ H' fun σ2 H2 => tb { D with nx := N, ct := N, bk := D.nx } σ2 H2) := by
  refine ⟨fun k m σ H => m = xs.length - k ∧ k ≤ xs.length ∧ Pv (xs.take k) σ H, ⟨xs.length, by simp, Nat.zero_le _, h0⟩, ?_⟩
  rintro k m σ H ⟨rfl, hk, p⟩
  have q := hl _ σ H p
  by_cases hlt : k < xs.length
  · refine .inr ⟨⟨xs, xs[k], q, by simp [hlt]⟩, Pv (xs.take (k + 1)), fun σ' H' p' => ⟨xs.length - (k + 1), by omega, rfl, hlt, p'⟩, fun v H' y => ?_⟩
    obtain ⟨T, x, rfl, nT, rfl, hx⟩ := y
    have hx := hx xs q
    refine ⟨T, _, rfl, SqT.of upd_same, rfl, _, _, rfl, _, _, rfl, rfl, ?_⟩
    have z := hs _ x _ σ H T (take_pre hx).1 p nT
    rw [(take_pre hx).2]
    rw [show (xs.take k).length = k by rw [List.length_take]; omega] at z
    exact z
  · have e : k = xs.length := by omega
    subst e
    rw [List.take_length] at p
    exact .inl ⟨⟨xs, q, Nat.le_refl _⟩, hd σ H p⟩
/-- [e for x in xs] -/
theorem lc_pre {te : TE} {vs : List Nat} {i : Nat} {H1 : Hp} {L : Addr} {Qd : Hp → Prop} (Pv : List V → Hp → Prop) (h0 : Pv [] (upd H1 L (.lst []))) (hl : ∀ pre H, Pv pre H → SqL K H a xs)
    (hw : ∀ x, wipe ((wipe σ vs).set i (some x)) vs = wipe σ vs)
    (hs : ∀ pre x post H, xs = pre ++ x :: post → Pv pre H → te ((wipe σ vs).set i (some x)) H fun y H4 => ∃ acc, H4 L = some (.lst acc) ∧ acc.length < sizeLine ∧ Pv (pre ++ [x]) (upd H4 L (.lst (acc ++ [y])))) (hd : ∀ H, Pv xs H → Qd H) :
    ∃ W : Nat → Nat → Hp → Prop, (∃ m, W 0 m (upd H1 L (.lst []))) ∧ ∀ k m H, W k m H →
      ((Itl K a).stop k H ∧ Qd H) ∨ ((Itl K a).go k H ∧ ∃ Nx : Hp → Prop, (∀ H', Nx H' → ∃ m', m' < m ∧ W (k + 1) m' H') ∧ ∀ x H', (Itl K a).yld k H x H' → gName i x (wipe σ vs) H' fun σ2 H2 => wipe σ2 vs = wipe σ vs ∧ tYes σ2 H2 fun b H3 =>
        if b = true then te σ2 H3 fun y H4 => ∃ acc, H4 L = some (.lst acc) ∧ acc.length < sizeLine ∧ Nx (upd H4 L (.lst (acc ++ [y]))) else Nx H3) :=
  lc_list (fun k => Pv (xs.take k)) h0 (fun k H _ p => hl _ H p) (fun k x H hx p => ⟨hw x, by
    rw [(take_pre hx).2]
    exact hs _ x _ H (take_pre hx).1 p⟩) (fun H p => hd H (by rw [List.take_length] at p; exact p))
/-- [e for x in range(n)] -/
theorem lc_rng {te : TE} {vs : List Nat} {i : Nat} {n : Nat} {lo : Int} {H1 : Hp} {L : Addr} {Qd : Hp → Prop} (Pv : Nat → Hp → Prop) (h0 : Pv 0 (upd H1 L (.lst [])))
    (hw : ∀ x, wipe ((wipe σ vs).set i (some x)) vs = wipe σ vs)
    (hs : ∀ k H, k < n → Pv k H → te ((wipe σ vs).set i (some (.int (lo + k)))) H fun y H4 => ∃ acc, H4 L = some (.lst acc) ∧ acc.length < sizeLine ∧ Pv (k + 1) (upd H4 L (.lst (acc ++ [y])))) (hd : ∀ H, Pv n H → Qd H) :
    ∃ W : Nat → Nat → Hp → Prop, (∃ m, W 0 m (upd H1 L (.lst []))) ∧ ∀ k m H, W k m H →
      ((Itr lo n).stop k H ∧ Qd H) ∨ ((Itr lo n).go k H ∧ ∃ Nx : Hp → Prop, (∀ H', Nx H' → ∃ m', m' < m ∧ W (k + 1) m' H') ∧ ∀ x H', (Itr lo n).yld k H x H' → gName i x (wipe σ vs) H' fun σ2 H2 => wipe σ2 vs = wipe σ vs ∧ tYes σ2 H2 fun b H3 =>
        if b = true then te σ2 H3 fun y H4 => ∃ acc, H4 L = some (.lst acc) ∧ acc.length < sizeLine ∧ Nx (upd H4 L (.lst (acc ++ [y]))) else Nx H3) :=
  lc_range (lo := lo) (n := n) Pv h0 (fun k H hk p => ⟨hw _, hs k H hk p⟩) hd
end
/-! ### places of lists -/
theorem atI_in {α : Type} {xs : List α} {i : Int} (h0 : 0 ≤ i) (h1 : i < xs.length) : ∃ v, atI xs i = some v ∧ v ∈ xs := by
  obtain ⟨j, rfl⟩ : ∃ j : Nat, i = (j : Int) := ⟨i.toNat, by omega⟩
  have hj : j < xs.length := by omega
  exact ⟨xs[j], atI_nat (List.getElem?_eq_getElem hj), List.getElem_mem hj⟩
theorem small {n : Nat} (h : n ≤ 100000) : n ≤ sizeLine := Nat.le_trans h (by decide)
theorem smallL {n : Nat} (h : n < 100000) : n < sizeLine := Nat.lt_of_lt_of_le h (by decide)
theorem sz {n : Nat} (h : Nat.ble n 100000 = true := by rfl) : n ≤ sizeLine := small (Nat.le_of_ble_eq_true h)
theorem seqIdx {i : Int} {n : Nat} (h0 : 0 ≤ i) (h1 : i < n) : seqIndex? i n = some i.toNat := by
  unfold seqIndex?
  have e : (if i < 0 then i + n else i) = i := by rw [if_neg (by omega)]
  simp only [e]
  rw [if_pos (by simp; omega)]
theorem atN {α : Type} {xs : List α} {i : Int} {v : α} (h0 : 0 ≤ i) (h : atI xs i = some v) : xs[i.toNat]? = some v := by
  obtain ⟨j, rfl⟩ : ∃ j : Nat, i = (j : Int) := ⟨i.toNat, by omega⟩
  unfold atI ixN at h
  rw [if_pos (by omega)] at h
  split at h
  · simpa using h
  · cases h
theorem mem_erase {α : Type} {xs : List α} {k : Nat} {y : α} (h : y ∈ xs.eraseIdx k) : y ∈ xs := List.mem_of_mem_eraseIdx h
/-- the i-th of a paired list -/
theorem prd_get {α β : Type} {F : α → β → Prop} : ∀ {xs : List α} {ys : List β} {i : Nat} {x : α}, Paired F xs ys → xs[i]? = some x → ∃ y, ys[i]? = some y ∧ F x y
  | _, _, _, _, .nil, h => by simp at h
  | _, _, 0, _, .cons r _, h => by
    simp at h
    subst h
    exact ⟨_, rfl, r⟩
  | _, _, i + 1, _, .cons _ t, h => by
    rw [List.getElem?_cons_succ] at h
    obtain ⟨y, h1, h2⟩ := prd_get t h
    exact ⟨y, by rw [List.getElem?_cons_succ]; exact h1, h2⟩
theorem prd_len {α β : Type} {F : α → β → Prop} : ∀ {xs : List α} {ys : List β}, Paired F xs ys → xs.length = ys.length
  | _, _, .nil => rfl
  | _, _, .cons _ t => congrArg (· + 1) (prd_len t)
theorem prd_imp {α β : Type} {F F' : α → β → Prop} (k : ∀ x y, F x y → F' x y) : ∀ {xs : List α} {ys : List β}, Paired F xs ys → Paired F' xs ys
  | _, _, .nil => .nil
  | _, _, .cons r t => .cons (k _ _ r) (prd_imp k t)
theorem prd_app {α β : Type} {F : α → β → Prop} : ∀ {xs xs' : List α} {ys ys' : List β}, Paired F xs ys → Paired F xs' ys' → Paired F (xs ++ xs') (ys ++ ys')
  | _, _, _, _, .nil, s => s
  | _, _, _, _, .cons r t, s => .cons r (prd_app t s)
theorem prd_take {α β : Type} {F : α → β → Prop} : ∀ {xs : List α} {ys : List β} (n : Nat), Paired F xs ys → Paired F (xs.take n) (ys.take n)
  | _, _, 0, _ => .nil
  | _, _, _ + 1, .nil => .nil
  | _, _, n + 1, .cons r t => .cons r (prd_take n t)
/-- each has a partner -/
theorem prd_ex {α β : Type} {F : α → β → Prop} : ∀ {xs : List α}, (∀ x ∈ xs, ∃ y, F x y) → ∃ ys, Paired F xs ys
  | [], _ => ⟨[], .nil⟩
  | x :: r, h => by
    obtain ⟨y, hy⟩ := h x List.mem_cons_self
    obtain ⟨ys, hs⟩ := prd_ex fun x hx => h x (List.mem_cons_of_mem _ hx)
    exact ⟨y :: ys, .cons hy hs⟩
theorem prd_mem {α β : Type} {F : α → β → Prop} {x : α} : ∀ {xs : List α} {ys : List β}, Paired F xs ys → x ∈ xs → ∃ y ∈ ys, F x y
  | _, _, .nil, h => nomatch h
  | _, _, .cons (b := b) r t, h => by
    rcases List.mem_cons.mp h with rfl | h
    · exact ⟨b, List.mem_cons_self, r⟩
    · obtain ⟨y, h1, h2⟩ := prd_mem t h
      exact ⟨y, List.mem_cons_of_mem _ h1, h2⟩
/-- a statement and what follows it, with a word J between them -/
def xCut (t u : TS) : TS := fun D σ H => ∃ J : L2.St → Hp → Prop, t { D with nx := J } σ H ∧ ∀ σ' H', J σ' H' → u D σ' H'
theorem xss_cut {X : Cx} {st : Stmt} {sts : List Stmt} {t u : TS} (h1 : PS X st t) (h2 : PSs X sts u) : PSs X (st :: sts) (xCut t u) := by
  refine ⟨fun pins s0 σ H D I h => ?_⟩
  obtain ⟨J, hj, hu⟩ := h
  refine wpAny_execs_cons (thn (h1.run pins s0 σ H { D with nx := J } I hj) fun fl s2 q => ?_)
  cases fl with
  | next =>
    obtain ⟨σ2, H2, I2, q2⟩ := q
    exact h2.run pins s2 σ2 H2 D I2 (hu σ2 H2 q2)
  | _ => exact q
section
variable {K : PySem.W.Frag} {a : Addr} {xs : List V} {σ : L2.St}
/-- [e for x in xs], by the turn -/
theorem lc_at {te : TE} {vs : List Nat} {i : Nat} {H1 : Hp} {L : Addr} {Qd : Hp → Prop} (Pv : Nat → Hp → Prop) (h0 : Pv 0 (upd H1 L (.lst []))) (hl : ∀ k H, Pv k H → SqL K H a xs)
    (hw : ∀ x, wipe ((wipe σ vs).set i (some x)) vs = wipe σ vs)
    (hs : ∀ k x H, xs[k]? = some x → Pv k H → te ((wipe σ vs).set i (some x)) H fun y H4 => ∃ acc, H4 L = some (.lst acc) ∧ acc.length < sizeLine ∧ Pv (k + 1) (upd H4 L (.lst (acc ++ [y])))) (hd : ∀ H, Pv xs.length H → Qd H) :
    ∃ W : Nat → Nat → Hp → Prop, (∃ m, W 0 m (upd H1 L (.lst []))) ∧ ∀ k m H, W k m H →
      ((Itl K a).stop k H ∧ Qd H) ∨ ((Itl K a).go k H ∧ ∃ Nx : Hp → Prop, (∀ H', Nx H' → ∃ m', m' < m ∧ W (k + 1) m' H') ∧ ∀ x H', (Itl K a).yld k H x H' → gName i x (wipe σ vs) H' fun σ2 H2 => wipe σ2 vs = wipe σ vs ∧ tYes σ2 H2 fun b H3 =>
        if b = true then te σ2 H3 fun y H4 => ∃ acc, H4 L = some (.lst acc) ∧ acc.length < sizeLine ∧ Nx (upd H4 L (.lst (acc ++ [y]))) else Nx H3) :=
  lc_list Pv h0 (fun k H _ p => hl _ H p) (fun k x H hx p => ⟨hw x, hs _ x H hx p⟩) hd
end
theorem take_snoc {α : Type} {xs : List α} {i : Nat} {x : α} (h : xs[i]? = some x) : xs.take (i + 1) = xs.take i ++ [x] := (take_pre h).2
theorem ff {A : Prop} (h : false = true) : A := nomatch h
theorem tt {A : Prop} (h : true = false) : A := nomatch h
/-! ### the same with the written part K said (within a comprehension the reading must not name its context) -/
section
variable {X : Cx} (K : PySem.W.Frag) {a b e o : Expr} {es : List Expr} {ta tb te to : TE} {t : TA} {pos : Pos} {tg : Expr}
theorem ix_k (h : X.K = K := by rfl) : IxR X (yIx K) := h ▸ ix_y
theorem cr_lenK (h : X.K = K := by rfl) : CallR X (.builtin "len") (yLen K) := h ▸ cr_len
theorem op_eqK (hu : X.A.units + 64 < cLine) (h : X.K = K := by rfl) : OpR X (compareOp .Eq) (yEq K) := h ▸ op_eqY hu
theorem op_neK (hu : X.A.units + 64 < cLine) (h : X.K = K := by rfl) : OpR X (compareOp .NotEq) (yNe K) := h ▸ op_neY hu
theorem xt_truK (ha : PE X a ta) (h : X.K = K := by rfl) (he : ∀ whole, isTrue a X.env whole = (do let v ← whole; standAt a.pos; holding [v] (truthy v)) := by intro _; rfl) : PT X a (xTru K ta) := h ▸ xt_tru ha he
theorem call_isK (h : X.K = K := by rfl) : CallR X (.builtin "isinstance") (rIsi K) := h ▸ call_isi
def yList (K : PySem.W.Frag) : List V → Hp → VK → Prop := fun xs H Q => ∃ p ys, xs = [.ref p] ∧ (SqL K H p ys ∨ SqT K H p ys) ∧ ∀ l, H l = none → Q (.ref l) (upd H l (.lst ys))
theorem call_listK (h : X.K = K := by rfl) : CallR X (.type "list") (yList K) := h ▸ call_list_of
def yTup (K : PySem.W.Frag) : List V → Hp → VK → Prop := fun xs H Q => ∃ p ys, xs = [.ref p] ∧ ((SqL K H p ys ∧ ∀ l, H l = none → Q (.ref l) (upd H l (.tup ys))) ∨ (SqT K H p ys ∧ Q (.ref p) H))
theorem call_tupleK (h : X.K = K := by rfl) : CallR X (.type "tuple") (yTup K) := h ▸ call_tuple_of
theorem cr_sumK (hc : X.calm = true) (h : X.K = K := by rfl) : CallR X (.builtin "sum") (rSum K) := h ▸ cr_sum hc
theorem sl_listK (h : X.K = K := by rfl) : SlR X (rSlL K) := h ▸ sl_list
theorem pi_listK (ha : PE X a ta) (h : X.K = K := by rfl) : PI X tg a (iList K ta) := h ▸ pi_list ha
theorem pi_tupK (ha : PE X a ta) (h : X.K = K := by rfl) : PI X tg a (iTup K ta) := h ▸ pi_tup ha
theorem pe_bmK {T id : String} {name : Str} {apos cpos : Pos} {r : V → List V → Hp → VK → Prop} (pa : PlainAttrs T) (slot : Slot T name id) (hty : typeOf (.builtin id) = pure (.type "method_descriptor")) (hm : MtR X id r) (ho : PE X o to) (ha : PA X (e :: es) t) (hK : X.K = K := by rfl)
    (hbase : attributeBase o name X.env (eval o X.env) = eval o X.env := by rfl)
    (hfew : ((backTo cpos (starEach (e :: es) X.env)).all (fun x => !x.1) && (backToKw cpos (keywordEach [] X.env)).all (fun x => x.1.isSome)
      && decide ((e :: es).length + ([] : List Keyword).length + (if ([] : List Keyword).isEmpty then 0 else 1) < 30)) = true := by rfl)
    (hline : (apos.endLine == cpos.line) = true := by rfl) (hs : starEach (e :: es) X.env = (false, eval e X.env) :: starEach es X.env := by rfl) (hplain : (backTo cpos (starEach es X.env)).any (·.1) = false := by rfl) :
    PE X (.Call (.Attribute o name apos) (e :: es) [] cpos) (tBM K T r to t) := hK ▸ pe_bm pa slot hty hm ho ha hbase hfew hline hs hplain
end
section
variable {X : Cx} {a b c o : Expr} {ta tb tc : TE} {pos : Pos}
/-- a op1 b op2 c, b asked once -/
def xChain (r r' : R2) (ta tb tc : TE) : TE := fun σ H Q => ta σ H fun x H1 => tb σ H1 fun y H2 => r x y H2 fun z H3 => match z with
  | .bl k => (k = true → tc σ H3 fun w' H4 => r' y w' H4 Q) ∧ (k = false → Q (.bl false) H3)
  | _ => False
theorem xe_chain {op op' : CmpOp} {r r' : R2} (ho : OpR X (compareOp op) r) (ho' : OpR X (compareOp op') r') (ha : PE X a ta) (hb : PE X b tb) (hc : PE X c tc)
    (hm : lastMarks [op, op'] [b, c] = false := by with_unfolding_all rfl) : PE X (.Compare a [op, op'] [b, c] pos) (xChain r r' ta tb tc) := by
  refine ⟨fun pins s0 σ H Q J h => ?_⟩
  refine Compare_chain (thn (ha.run pins s0 σ H _ J h) fun v s1 ⟨x, H1, J1, r1, q1⟩ => chain_link (thn (hb.run pins s1 σ H1 _ J1 q1) fun u s2 ⟨y, H2, J2, r2, q2⟩ =>
    thn (ho pins s2 σ H2 x y v u _ J2 r1 r2 q2) fun d s3 ⟨z, H3, J3, r3, q3⟩ => ?_)) hm
  cases z with
  | bl k =>
    cases r3
    refine wpAny_truthy_bool ?_
    cases k with
    | false => exact ite_ff ⟨.bl false, H3, J3, rfl, q3.2 rfl⟩
    | true => exact ite_tt (chain_last (thn (hc.run pins s3 σ H3 _ J3 (q3.1 rfl)) fun w' s4 ⟨z', H4, J4, r4, q4⟩ => ho' pins s4 σ H4 y z' u w' Q J4 r2 r4 q4))
  | _ => exact False.elim q3
theorem xt_chain {op op' : CmpOp} {r r' : R2} (ho : OpR X (compareOp op) r) (ho' : OpR X (compareOp op') r') (ha : PE X a ta) (hb : PE X b tb) (hc : PE X c tc)
    (hm : lastMarks [op, op'] [b, c] = false := by with_unfolding_all rfl) : PT X (.Compare a [op, op'] [b, c] pos) (xB (xChain r r' ta tb tc)) := by
  refine ⟨fun pins s0 σ H Q J h => ?_⟩
  refine isTrue_chain (thn (ha.run pins s0 σ H _ J h) fun v s1 ⟨x, H1, J1, r1, q1⟩ => test_link (thn (hb.run pins s1 σ H1 _ J1 q1) fun u s2 ⟨y, H2, J2, r2, q2⟩ =>
    thn (ho pins s2 σ H2 x y v u _ J2 r1 r2 q2) fun d s3 ⟨z, H3, J3, r3, q3⟩ => ?_)) hm
  cases z with
  | bl k =>
    cases r3
    refine wpAny_truthy_bool ?_
    cases k with
    | false => exact ite_ff ⟨H3, J3, q3.2 rfl⟩
    | true =>
      refine ite_tt (test_last (thn (hc.run pins s3 σ H3 _ J3 (q3.1 rfl)) fun w' s4 ⟨z', H4, J4, r4, q4⟩ => thn (ho' pins s4 σ H4 y z' u w' _ J4 r2 r4 q4) fun d' s5 ⟨z2, H5, J5, r5, q5⟩ => ?_))
      cases z2 with
      | bl k2 =>
        cases r5
        exact wpAny_truthy_bool ⟨H5, J5, q5⟩
      | _ => exact False.elim q5
  | _ => exact False.elim q3
/-- while: a word with its measure -/
def xWhile (c : TT) (tb : TS) : TS := fun D σ H => ∃ W : Nat → L2.St → Hp → Prop, (∃ m, W m σ H) ∧ ∀ m σ H, W m σ H → c σ H fun b H1 =>
  (b = true → tb { D with nx := fun σ' H' => ∃ m', m' < m ∧ W m' σ' H', ct := fun σ' H' => ∃ m', m' < m ∧ W m' σ' H', bk := D.nx } σ H1) ∧ (b = false → D.nx σ H1)
theorem xs_while {c : Expr} {body : List Stmt} {tc : TT} {tb : TS} (hp : PassesOwn (model X.prog X.w) X.A X.env X.xe) (hc : PT X c tc) (hb : PSs X body tb) : PS X (.While c body [] pos) (xWhile tc tb) := by
  refine ⟨fun pins s0 σ H D J h => ?_⟩
  obtain ⟨W, ⟨m0, w0⟩, turn⟩ := h
  refine wpAny_While (codeAny_whileLoop (fun n s' => ∃ σ' H', L2.Inv X pins σ' H' s' ∧ W n σ' H') ?_ m0 ⟨σ, H, J, w0⟩)
  rintro n s1 ⟨σ1, H1, J1, w1⟩
  refine wpAny_passesOwn hp (thn (hc.run pins s1 σ1 H1 _ J1 (turn n σ1 H1 w1)) fun k s2 ⟨H2, J2, q2⟩ => ?_)
  cases k with
  | true =>
    rw [if_pos rfl]
    refine wpAny_passesOwn hp (thn (hb.run pins s2 σ1 H2 _ J2 (q2.1 rfl)) fun f s3 q3 => ?_)
    cases f with
    | next =>
      obtain ⟨σ3, H3, J3, m', hm, w3⟩ := q3
      exact ⟨m', hm, σ3, H3, J3, w3⟩
    | cont =>
      obtain ⟨σ3, H3, J3, m', hm, w3⟩ := q3
      exact ⟨m', hm, σ3, H3, J3, w3⟩
    | brk => exact q3
    | ret v => exact q3
  | false =>
    rw [if_neg Bool.false_ne_true]
    exact wpAny_execs_nil ⟨σ1, H2, J2, q2.2 rfl⟩
/-- a comparison by an own method (__le__ ..) of two instances of C -/
def yOwn (C : Addr) (sp : Sp) (E : XK) : R2 := fun x y H Q => ∃ a b dx dy fs gs, x = .ref a ∧ y = .ref b ∧ H a = some (.ins C dx fs) ∧ H b = some (.ins C dy gs) ∧ sp [.ref a, .ref b] H Q E
theorem op_own {CX : CXT} {C f : Addr} {fd : FuncData} {ps : List Str} {sp : Sp} {E : XK} {op : CmpOp} {n : Nat} (hop : compareOp op = richCompare op) (F : FnOk X.prog X.w X.K X.mg X.base CX n f fd ps sp)
    (hs : PySem.W.findIn X.K (.ref C) (cmpInfo op).2.1 = some (some (.ref f))) (hf : PySem.W.isFn X.K (.ref f) = true) (hb : Binds X.K fd ps []) (hx : Passes CX X E) (hr : Room n X.A) : OpR X (compareOp op) (yOwn C sp E) := by
  intro pins s σ H x y u v Q I rx ry h
  obtain ⟨a, b, dx, dy, fs, gs, rfl, rfl, ha, hb', hsp⟩ := h
  cases rx
  cases ry
  rw [hop]
  obtain ⟨mA, J1, _⟩ := ins_get I.hok ha
  obtain ⟨mB, J2, _⟩ := ins_get I.hok hb'
  obtain ⟨od, J1, _⟩ := J1.look
  obtain ⟨od', J2, _⟩ := J2.look
  obtain ⟨m, hF⟩ := I.fr
  refine PySem.W.cmp_K (op := op) (tb := .ref C) hr.units0 hF I.ok.mod.kin J1 J2.type (by simp [PySem.W.notFirst]) hs hf ?_
  have hl := F.len _ _ _ _ hsp
  refine wpAny_mono (run_fn (us := [.ref a, .ref b]) (vs := [.ref a, .ref b]) (dvs := []) F hr hb .nil hx I (.cons rfl (.cons rfl .nil)) hsp) (fun v s' q => ?_) fun _ _ e => e
  obtain ⟨z, H', I', rz, q⟩ := q
  have fin : EP X pins σ Q v s' := ⟨z, H', I', rz, q⟩
  cases v <;> first | exact fin | (cases z <;> first | exact absurd (show _ = _ from rz) (by intro e; cases e) | (obtain ⟨_, e⟩ := rz; cases e))
variable (K : PySem.W.Frag)
theorem pe_fldK {f : Str} (ha : PE X a ta) (hb : attributeBase a f X.env (eval a X.env) = eval a X.env := by rfl) (h : X.K = K := by rfl) : PE X (.Attribute a f pos) (tFld K ta f) := h ▸ pe_fld ha hb
theorem in_seqK (h : X.K = K := by rfl) : OpR X (compareOp .In) (rIn K false) := h ▸ op_in_seq
theorem notin_seqK (h : X.K = K := by rfl) : OpR X (compareOp .NotIn) (rIn K true) := h ▸ op_notIn_seq
theorem mt_countK (h : X.K = K := by rfl) : MtR X "list.count" (rCntI K) := h ▸ mt_lcount
theorem cr_allK (hc : X.calm = true) (h : X.K = K := by rfl) : CallR X (.builtin "all") (rAll K) := h ▸ cr_all hc
theorem cr_anyK (hc : X.calm = true) (h : X.K = K := by rfl) : CallR X (.builtin "any") (rAny K) := h ▸ cr_any hc
end
theorem xe_glob {X : Cx} {x z : Str} {pos : Pos} (hg : Gl X x) (hm : ∃ t, X.mg x = some (.str z t)) (hd : (x == ("__debug__" : Str)) = false := by decide) : PE X (.Name x pos) (tC (.str z)) := by
  obtain ⟨t, hm⟩ := hm
  exact pe_glob hg hm ⟨_, rfl⟩ hd
theorem xe_globI {X : Cx} {x : Str} {z : Int} {pos : Pos} (hg : Gl X x) (hm : ∃ t, X.mg x = some (.int z t)) (hd : (x == ("__debug__" : Str)) = false := by decide) : PE X (.Name x pos) (tC (.int z)) := by
  obtain ⟨t, hm⟩ := hm
  exact pe_glob hg hm ⟨_, rfl⟩ hd
theorem prd_unsnoc {α β : Type} {F : α → β → Prop} {x : α} : ∀ {xs : List α} {ys : List β}, Paired F (xs ++ [x]) ys → ∃ ys' y, ys = ys' ++ [y] ∧ Paired F xs ys' ∧ F x y
  | [], _, .cons r .nil => ⟨[], _, rfl, .nil, r⟩
  | _ :: xs, _, .cons (b := b) r t => by
    obtain ⟨ys', y, rfl, h1, h2⟩ := prd_unsnoc (xs := xs) t
    exact ⟨b :: ys', y, rfl, .cons r h1, h2⟩
theorem nil_or_snoc {α : Type} (xs : List α) : xs = [] ∨ ∃ ys y, xs = ys ++ [y] := by
  rcases List.eq_nil_or_concat xs with h | ⟨ys, y, h⟩
  · exact .inl h
  · exact .inr ⟨ys, y, by simpa using h⟩
theorem pg_tupK {X : Cx} (K : PySem.W.Frag) (n : Nat) {es : List Expr} {k : Nat} {pos : Pos} {t : TGs} (h : PGs X es t) (hc : X.calm = true := by rfl) (hK : X.K = K := by rfl)
    (hn : (assignEach es X.env).length = n := by rfl) (hst : (assignEach es X.env).findIdx? (·.1) = none := by rfl) : PG X (.Tuple es k pos) (gTup K n t) := hK ▸ pg_tup hc h hn hst
theorem perm_erase {α : Type} : ∀ {xs : List α} {i : Nat} {x : α}, xs[i]? = some x → (x :: xs.eraseIdx i).Perm xs
  | [], _, _, h => by simp at h
  | y :: r, 0, x, h => by
    simp at h
    subst h
    exact List.Perm.refl _
  | y :: r, i + 1, x, h => by
    rw [List.getElem?_cons_succ] at h
    exact (List.Perm.swap _ _ _).trans (List.Perm.cons _ (perm_erase h))
theorem Sep.new2 {G H : Hp} {M : List (Addr × HO)} {x dx : Addr} {o u : HO} (S : Sep G M H) (h1 : H x = Option.none) (h2 : H dx = Option.none) (ne : dx ≠ x) : Sep G ((x, o) :: (dx, u) :: M) (upd (upd H dx u) x o) :=
  (S.new h2).new (by rw [upd_ne (Ne.symm ne)]; exact h1)
end XL
set_option Elab.async false
set_option linter.all false
set_option maxRecDepth 100000
set_option maxHeartbeats 4000000
/-! XIter: enumerate of a tuple. -/
namespace XL
open PySem PySem.Spec PyProof.Rows L2
theorem meets_enum1 {v : Value} {o : Obj} {Hq : Heap → Prop} (B : Begins v o Hq) :
    Meets (Builtin.«enumerate.__new__» ⟨[.type "enumerate", v], []⟩) (fun _ R s => Hq s.heap ∧
      R (.ok (.ret (.ref (s.heap.push o).objs.size))) { s with heap := (s.heap.push o).push { cls := .type "enumerate", data := .fields #[.none, .bool false, .ref s.heap.objs.size, rawInt 0, .none, .none] } }) :=
  .of_wp fun prog w A R s z => by
    obtain ⟨hp, g, d, tk, os⟩ := s
    obtain ⟨z1, z2⟩ := z
    have hsub := sub_enumerate
    have begin1 : ∀ {A' : Around} {E : Value → Shared → Prop} {Q : Value → Shared → Prop}, Q (.ref hp.objs.size) ⟨hp.push o, g, d, tk, os⟩ → wpAny (model prog w) A' (pyIter v) Q E ⟨hp, g, d, tk, os⟩ := fun q => B.iter prog w _ _ ⟨hp, g, d, tk, os⟩ _ z1 q
    wp_walk using begin1
    refine wpAny_stack_any fun st => wpAny_pure ?_
    split
    · rename_i c _ _ _ _ _
      cases (c == Value.type "enumerate") <;> (wp_walk using begin1; exact ⟨_, rfl, z2⟩)
    · wp_walk using begin1
      exact ⟨_, rfl, z2⟩
theorem call_enum1 {prog : Program} {w : World} {A : Around} {E : Value → Shared → Prop} {s : Shared} {v : Value} {o : Obj} {Hq : Heap → Prop} {Q : Value → Shared → Prop} (B : Begins v o Hq) (h1 : Hq s.heap)
    (k : ∀ h', IsEnum h' (s.heap.objs.size + 1) s.heap.objs.size 0 .none → h'.get? s.heap.objs.size = some o → (∀ b o, s.heap.get? b = some o → h'.get? b = some o) → Q (.ref (s.heap.objs.size + 1)) { s with heap := h' }) :
    wpAny (model prog w) A (call (.type "enumerate") [v]) Q E s := by
  refine callType_new F.called_enumerate (by decide) (F.typeCall_enumerate_1 _) (F.newCall_enumerate_1 _) (fun ob => F.args_object_init_2 ob _) F.entry_enumerate_new (meets_enum1 B) ⟨h1, ?_⟩
  have hz : (s.heap.push o).objs.size = s.heap.objs.size + 1 := Heap.size_push ..
  show _ ∧ _
  rw [hz]
  have he : IsEnum ((s.heap.push o).push { cls := .type "enumerate", data := .fields #[.none, .bool false, .ref s.heap.objs.size, rawInt 0, .none, .none] }) (s.heap.objs.size + 1) s.heap.objs.size 0 .none := by
    have z := Heap.get?_push_size (s.heap.push o) (o := { cls := .type "enumerate", data := .fields #[.none, .bool false, .ref s.heap.objs.size, rawInt 0, .none, .none] }) rfl
    rw [hz] at z
    exact z
  exact ⟨⟨_, he, rfl⟩, k _ he (Heap.get?_push_of_some _ (Heap.get?_push_size _ B.free)) fun b o x => Heap.get?_push_of_some _ (Heap.get?_push_of_some _ x)⟩
/-- the tuple at a, each item in a new pair -/
def IteT (K : PySem.W.Frag) (a : Addr) : It :=
  ⟨fun i H => ∃ (xs : List V) (x : V), SqT K H a xs ∧ xs[i]? = some x, fun i H v H' => ∃ T x, v = .ref T ∧ H T = none ∧ H' = upd H T (.tup [.int (i : Nat), x]) ∧ ∀ xs, SqT K H a xs → xs[i]? = some x, fun i H => ∃ xs : List V, SqT K H a xs ∧ xs.length ≤ i⟩
theorem turn_enumT {P : Program} {w : World} {K : PySem.W.Frag} {elts : List Expr} {kk : Nat} {tpos : Pos} (a e it : Addr) (hai : a ≠ it) (hae : a ≠ e) :
    Turn P w K (.Tuple elts kk tpos) (IteT K a) [e, it] e (fun i h => (∃ old, IsEnum h e it ((i : Nat) : Int) old) ∧ h.IsTupleIter it a i ∧ e ≠ it) where
  mem := by simp
  obj := fun i h st b hb => by
    obtain ⟨⟨old, he⟩, ⟨o, ho, hc, hd⟩, _⟩ := st
    have q : b = e ∨ b = it := by simpa using hb
    rcases q with z | z
    · rw [z]; exact ⟨_, he, fun v q => nomatch q⟩
    · rw [z]; exact ⟨o, ho, fun v q => by rw [hd] at q; cases q⟩
  keep := fun i h h' st k => let ⟨⟨old, he⟩, hi, hne⟩ := st; ⟨⟨old, k e (by simp) _ he⟩, hi.at fun o q => k it (by simp) o q, hne⟩
  item := by
    intro X hP hw hK hc i pins s σ H E I hf st hg
    subst hP hw hK
    obtain ⟨⟨old, he⟩, hit, hne⟩ := st
    obtain ⟨xs, x, hq, hx⟩ := hg
    obtain ⟨its, rv, p, hz⟩ := I.tuple hq
    obtain ⟨u, hu, ru⟩ := rv.get hx
    have hel : e < s.heap.objs.size := Heap.lt_size he
    have hil : it < s.heap.objs.size := by obtain ⟨_, q, _⟩ := hit; exact Heap.lt_size q
    have hlen : i < its.toArray.size := by
      have z := (List.getElem?_eq_some_iff.mp hu).1
      simpa using z
    refine wpAny_pyNext_enum_itemC (c := ((i : Nat) : Int)) (Draws.tuple (A := X.A.in1) (I.ok.hd hc) it a hai its.toArray) he ⟨hit, p⟩ hlen hne (by simp; exact ⟨hne, fun z => hae z.symm⟩) fun y h' tk hy ho st' hT hsz hk => ?_
    have ey : y = u := by
      have z : its[i]? = some y := by simpa using hy
      rw [hu] at z
      exact (Option.some.inj z).symm
    subst ey
    refine ⟨_, rfl, wpAny_letOwnedTupleGo_enum (s := { s with heap := h', toks := tk + 1 }) ho fun h'' he' sb => ?_⟩
    have hT2 : h''.get? s.heap.objs.size = some { cls := .type "tuple", data := .seq #[.int i tk, y] } := (sb.2 _ (Nat.ne_of_gt hel)).trans hT
    have new : ObjOk X.prog X.w (upd H s.heap.objs.size (.tup [.int (i : Nat), x])) h'' s.heap.objs.size (.tup [.int (i : Nat), x]) :=
      ⟨by show 2 ≤ sizeLine; decide, [.int i tk, y], .cons ⟨_, rfl⟩ (.cons ru .nil), ⟨_, hT2, rfl, _, rfl⟩⟩
    have I1 : L2.Inv X pins σ (upd H s.heap.objs.size (.tup [.int (i : Nat), x])) { s with heap := h'', toks := tk + 1 } :=
      I.turnedNew (ch := [e, it]) (fun b ob hb q => (sb.2 b (fun z => hb (by simp [z]))).trans (hk b ob (fun z => hb (by simp [z])) (fun z => hb (by simp [z])) q)) hf (Nat.le_refl _) new
    refine ⟨.ref s.heap.objs.size, _, I1, rfl, ⟨_, x, rfl, I.hok.fresh (Nat.le_refl _), rfl, fun ys hy => by rw [I.tuple_inj hy hq]; exact hx⟩, ⟨⟨y, ?_⟩, st'.1.at fun o q => (sb.2 it (Ne.symm hne)).trans q, hne⟩, fun b hb => ?_⟩
    · have e1 : ((i + 1 : Nat) : Int) = (i : Int) + 1 := by omega
      rw [e1]; exact he'
    · have hb2 : b < s.heap.objs.size := by
        have q : b = e ∨ b = it := by simpa using hb
        rcases q with z | z
        · rw [z]; exact hel
        · rw [z]; exact hil
      rw [upd_ne (Nat.ne_of_lt hb2)]
      exact (hf b hb).1
  done := by
    intro X hP hw hK hc i pins s σ H E I hf st hg
    subst hP hw hK
    obtain ⟨⟨old, he⟩, hit, hne⟩ := st
    obtain ⟨xs, hq, hx⟩ := hg
    obtain ⟨its, rv, p, hz⟩ := I.tuple hq
    obtain ⟨f0, f1, f2, f3, f4, f5⟩ := hf it (by simp)
    have hl := rv.length
    have D := Draws.tuple (prog := X.prog) (w := X.w) (A := X.A.in1) (I.ok.hd hc) it a hai its.toArray
    by_cases hi : i = its.toArray.size
    · subst hi
      exact wpAny_pyNext_enum_endD D he ⟨hit, p⟩ fun h' eb => ⟨rfl, I.turned (t' := s.toks) (fun b o hb q => eb b o hb q) f0 f1 f3 f4 f5⟩
    · have D2 : Draws X.prog X.w X.A.in1 it [it, a] i (fun _ _ => False) (fun j h => (j = i ∨ False) ∧ h.IsTupleIter it a i ∧ h.IsTuple a its.toArray) := {
        live := fun _ _ st => let ⟨o, ho, _⟩ := st.2.1; ⟨o, ho⟩
        frame := fun _ _ _ st hk => ⟨st.1, st.2.1.at fun o e => hk it (by simp) o e, st.2.2.at fun o e => hk a (by simp) o e⟩
        item := fun j s Q E hj st hQ => by
          rcases st.1 with z | z
          · omega
          · exact z.elim
        done := fun s Q E st hE => wpAny_nextOf_tuple_end (I.ok.hd hc) st.2.1 st.2.2 (by
          simp only [List.getElem?_toArray]
          exact List.getElem?_eq_none_iff.mpr (by omega)) hE }
      exact wpAny_pyNext_enum_endD D2 he ⟨.inl rfl, hit, p⟩ fun h' eb => ⟨rfl, I.turned (t' := s.toks) (fun b o hb q => eb b o hb q) f0 f1 f3 f4 f5⟩
  self := fun A i s Q E st h => let ⟨⟨_, he⟩, _⟩ := st; wpAny_pyIter_enum he h
def iEnumT (K : PySem.W.Frag) (ta : TA) : TI := fun σ H R => ta σ H fun vs H1 => ∃ a xs, vs = [.ref a] ∧ SqT K H1 a xs ∧ R (IteT K a) H1
theorem pi_enumT {X : Cx} {e : Expr} {ta : TA} {p pos tpos : Pos} {elts : List Expr} {kk : Nat} (hg : Gl X "enumerate") (hm : X.mg "enumerate" = none) (ha : PA X [e] ta) (hs : starEach [e] X.env = [(false, eval e X.env)] := by rfl) :
    PI X (.Tuple elts kk tpos) (.Call (.Name "enumerate" p) [e] [] pos) (iEnumT X.K ta) := by
  refine ⟨fun pins s σ H R I h => ?_⟩
  refine Call_ (ld_blt I hg hm boot_enumerate (PyProof.Rows.callWith_type1 (thn (ha.run pos pins s σ H _ I h) fun us s1 ⟨vs, H1, I1, r1, q1⟩ => ?_) hs rfl))
  obtain ⟨a, xs, ex, hq, q⟩ := q1
  subst ex
  cases r1 with
  | cons r rr =>
    cases rr
    cases r
    obtain ⟨its, rv, p', hz⟩ := I1.tuple hq
    have hal : a < s1.heap.objs.size := by obtain ⟨o, ho, _⟩ := p'; exact Heap.lt_size ho
    refine call_enum1 (begins_tuple a its.toArray) p' fun h' he hit hk => wpAny_pyIter_enum he ?_
    have I2 : L2.Inv X pins σ H1 { s1 with heap := h' } := I1.kept (t' := s1.toks) hk
    refine ⟨s1.heap.objs.size + 1, [s1.heap.objs.size + 1, s1.heap.objs.size], _, _, H1, rfl, I2, turn_enumT a (s1.heap.objs.size + 1) s1.heap.objs.size (Nat.ne_of_lt hal) (Nat.ne_of_lt (Nat.lt_succ_of_lt hal)), ⟨⟨.none, he⟩, ⟨_, hit, rfl, rfl⟩, Nat.succ_ne_self _⟩, fun b hb => ?_, q⟩
    have q' : b = s1.heap.objs.size + 1 ∨ b = s1.heap.objs.size := by simpa using hb
    have hle : s1.heap.objs.size ≤ b := by
      rcases q' with z | z
      · rw [z]; exact Nat.le_add_right _ _
      · rw [z]; exact Nat.le_refl _
    exact I1.fpOk hle (I1.hok.fresh hle)
theorem for_enumT {K : PySem.W.Frag} {a : Addr} {xs : List V} {tb : TS} {D : Ends} {σ : L2.St} {H : Hp} {i j : Nat} (Pv : Nat → L2.St → Hp → Prop) (h0 : Pv 0 σ H) (hl : ∀ k σ H, Pv k σ H → SqT K H a xs)
    (hs : ∀ k x σ H T, xs[k]? = some x → Pv k σ H → H T = none →
      tb { D with nx := Pv (k + 1), ct := Pv (k + 1), bk := D.nx } ((σ.set i (some (.int (k : Nat)))).set j (some x)) (upd H T (.tup [.int (k : Nat), x]))) (hd : ∀ σ H, Pv xs.length σ H → D.nx σ H) :
    ∃ W : Nat → Nat → L2.St → Hp → Prop, (∃ m, W 0 m σ H) ∧ ∀ k m σ H, W k m σ H →
      ((IteT K a).stop k H ∧ D.nx σ H) ∨ ((IteT K a).go k H ∧ ∃ N : L2.St → Hp → Prop, (∀ σ' H', N σ' H' → ∃ m', m' < m ∧ W (k + 1) m' σ' H') ∧ ∀ x H', (IteT K a).yld k H x H' →
        (gTup K 2 (gCons (gName i) (gCons (gName j) gNil))) x σ H' fun σ2 H2 => tb { D with nx := N, ct := N, bk := D.nx } σ2 H2) := by
  refine ⟨fun k m σ H => m = xs.length - k ∧ k ≤ xs.length ∧ Pv k σ H, ⟨xs.length, by simp, Nat.zero_le _, h0⟩, ?_⟩
  rintro k m σ H ⟨rfl, hk, p⟩
  have q := hl _ σ H p
  by_cases hlt : k < xs.length
  · refine .inr ⟨⟨xs, xs[k], q, by simp [hlt]⟩, Pv (k + 1), fun σ' H' p' => ⟨xs.length - (k + 1), by omega, rfl, hlt, p'⟩, fun v H' y => ?_⟩
    obtain ⟨T, x, rfl, nT, rfl, hx⟩ := y
    refine ⟨T, _, rfl, SqT.of upd_same, rfl, _, _, rfl, _, _, rfl, rfl, ?_⟩
    exact hs k x σ H T (hx xs q) p nT
  · have e : k = xs.length := by omega
    subst e
    exact .inl ⟨⟨xs, q, Nat.le_refl _⟩, hd σ H p⟩
end XL
set_option Elab.async false
set_option linter.all false
set_option maxRecDepth 100000
set_option maxHeartbeats 4000000
/-! XDeep: x in t, t.index(x), items data of any depth, t a list or a tuple. -/
namespace XL
open PySem PySem.Spec PyProof.Rows L2
section
variable {X : Cx} (K : PySem.W.Frag)
def rInX (K : PySem.W.Frag) (neg : Bool) : R2 := fun x y H Q => ∃ d ds, Dp K H x d ∧ (Dp K H y (.list ds) ∨ Dp K H y (.tuple ds)) ∧ SeqAt.shaped d = true ∧ PyData.canLayAll0 ds = true ∧ Q (.bl (if neg then !(ds.any fun z => PyData.eqv z d) else ds.any fun z => PyData.eqv z d)) H
theorem in_deepK (hu : X.A.units + 65 < cLine) (h : X.K = K := by rfl) : OpR X (compareOp .In) (rInX K false) := by
  subst h
  intro pins s σ H x y v u Q I rx ry h
  obtain ⟨d, ds, hd, he, sd, se, q⟩ := h
  obtain ⟨as, r1⟩ := Dp.reads I d x v hd rx
  rcases he with he | he
  · obtain ⟨bs, r2⟩ := Dp.reads I (.list ds) y u he ry
    exact SeqAt.in_list_reads r2 r1 se (SeqAt.canLay_of_shaped sd) (room_in_shaped sd hu) ⟨.bl _, H, I, rfl, q⟩
  · obtain ⟨bs, r2⟩ := Dp.reads I (.tuple ds) y u he ry
    exact SeqAt.in_tuple_reads r2 r1 se (SeqAt.canLay_of_shaped sd) (room_in_shaped sd hu) ⟨.bl _, H, I, rfl, q⟩
theorem notin_deepK (hu : X.A.units + 65 < cLine) (h : X.K = K := by rfl) : OpR X (compareOp .NotIn) (rInX K true) := by
  subst h
  intro pins s σ H x y v u Q I rx ry h
  obtain ⟨d, ds, hd, he, sd, se, q⟩ := h
  obtain ⟨as, r1⟩ := Dp.reads I d x v hd rx
  rcases he with he | he
  · obtain ⟨bs, r2⟩ := Dp.reads I (.list ds) y u he ry
    exact SeqAt.notIn_list_reads r2 r1 se (SeqAt.canLay_of_shaped sd) (room_in_shaped sd hu) ⟨.bl _, H, I, rfl, q⟩
  · obtain ⟨bs, r2⟩ := Dp.reads I (.tuple ds) y u he ry
    exact SeqAt.notIn_tuple_reads r2 r1 se (SeqAt.canLay_of_shaped sd) (room_in_shaped sd hu) ⟨.bl _, H, I, rfl, q⟩
/-- t.index(x), t a tuple: the first place of an equal one -/
def rIndexT (K : PySem.W.Frag) : V → List V → Hp → VK → Prop := fun x xs H Q => ∃ (a : Addr) (y : V) (d : PyData) (ds : List PyData) (j : Nat) (z : PyData), x = V.ref a ∧ xs = [y] ∧ Dp K H (V.ref a) (.tuple ds) ∧ Dp K H y d ∧
  PyData.canLayAll0 ds = true ∧ SeqAt.shaped d = true ∧ ds[j]? = some z ∧ PyData.eqv z d = true ∧ (∀ (m : Nat) (z' : PyData), m < j → ds[m]? = some z' → PyData.eqv z' d = false) ∧ Q (.int (j : Nat)) H
theorem mt_tindexK (hu : X.A.units + 65 < cLine) (h : X.K = K := by rfl) : MtR X "tuple.index" (rIndexT K) := by
  subst h
  intro pins s σ H x xs v us Q I rx rxs h
  obtain ⟨a, y, d, ds, j, z, rfl, rfl, hl, hy, hxs, sd, hz, hzj, hno, q⟩ := h
  cases rx
  cases rxs with
  | cons ry rt =>
    rename_i uy ut
    cases rt
    obtain ⟨bs, r1⟩ := Dp.reads I d y uy hy ry
    have hroom : X.A.units + 1 + min (PyData.depthAll ds) d.depth < cLine := room_in_shaped sd hu
    cases hl with
    | tup hs ha =>
      obtain ⟨its, rv, ⟨⟨cls, dd, data, sls⟩, ho, hc, n, hdt⟩, hlen⟩ := I.tuple hs
      simp only at hc hdt
      subst hc hdt
      obtain ⟨as, h4⟩ := Dp.readsAll I ds _ its ha rv
      have hn : its.length = ds.length := SeqAt.ReadsAll.length ds its as h4
      have hmap : its.map (SeqAt.readOf s.heap) = ds := SeqAt.readsAll_map ds its as hxs h4
      have hvl := rv.length
      obtain ⟨hjd, _⟩ := List.getElem?_eq_some_iff.mp hz
      have hjl : j < its.length := by omega
      have hj : j < its.toArray.size := by simpa using hjl
      have at_ : ∀ (m : Nat) (hm : m < its.toArray.size) (z' : PyData), ds[m]? = some z' → SeqAt.readOf s.heap its.toArray[m] = z' := by
        intro m hm z' hz'
        have hml : m < its.length := by simpa using hm
        rw [← hmap, List.getElem?_map, List.getElem?_eq_getElem hml] at hz'
        have e1 : SeqAt.readOf s.heap its[m] = z' := Option.some.inj (show some (SeqAt.readOf s.heap its[m]) = some z' from hz')
        simpa using e1
      refine call_meets PySem.F.slot_tuple_index ⟨_, ho, rfl⟩ PySem.F.entry_tuple_index (PySem.F.args_tuple_index_2 _ _)
        (TI.tuple_indexAt a its.toArray n dd sls uy (fun u => PyData.eqv (SeqAt.readOf s.heap u) d) j hj ?_ ?_) ⟨ho, SeqAt.items_eqAt (vs := its.toArray) (show ReadsAll s.heap its.toArray.toList ds as from h4) r1 hxs (SeqAt.canLay_of_shaped sd) hroom, ?_⟩
      · show PyData.eqv (SeqAt.readOf s.heap its.toArray[j]) d = true
        rw [at_ j hj z hz]
        exact hzj
      · intro m hm hmj
        have hmd : m < ds.length := by omega
        have hz' : ds[m]? = some ds[m] := List.getElem?_eq_getElem hmd
        show PyData.eqv (SeqAt.readOf s.heap its.toArray[m]) d = false
        rw [at_ m hm _ hz']
        exact hno m _ hmj hz'
      · exact ⟨.int (j : Nat), H, I.tok _, ⟨_, rfl⟩, q⟩
end
theorem u65 {k : Nat} {A : Around} (r : Room k A) : A.units + 65 < cLine := by have := r.un; omega
/-- xs[::-1] of a list -/
def tRev (K : PySem.W.Frag) (te : TE) : TE := fun σ H Q => te σ H fun x H1 => ∃ a xs, x = .ref a ∧ SqL K H1 a xs ∧ ∀ p, H1 p = none → Q (.ref p) (upd H1 p (.lst xs.reverse))
theorem pe_rev {X : Cx} {e m : Expr} {te : TE} {p2 pos : Pos} (he : PE X e te) (hm : PE X m (tC (.int (-1)))) : PE X (.Subscript e (.Slice none none (some m) p2) pos) (tRev X.K te) := by
  refine ⟨fun pins s σ H Q I h => ?_⟩
  refine Subscript_ (thn (he.run pins s σ H _ I h) fun v s1 ⟨x, H1, I1, r1, q1⟩ => ?_)
  refine wpAny_Slice (wpAny_evalPart_none (wpAny_evalPart_none (wpAny_evalPart_some (thn (hm.run pins s1 σ H1 (fun y H2 => y = .int (-1) ∧ H2 = H1) I1 ⟨rfl, rfl⟩) fun vm s3 ⟨y, H3, I3, r3, ey, eH⟩ => ?_))))
  subst ey eH
  obtain ⟨t, rfl⟩ := r3
  obtain ⟨a, xs, rfl, hx, q⟩ := q1
  cases r1
  have I4 : L2.Inv X pins σ H3 { s3 with heap := s3.heap.push { cls := .type "slice", data := .fields #[.none, .none, .int (-1) t] } } := I3.kept (t' := s3.toks) fun b ob q => Heap.get?_push_of_some _ q
  obtain ⟨its, r, ht, hz⟩ := I4.list hx
  have hlen := r.length
  show wpAny (model X.prog X.w) X.A (subscriptTail e (.Slice none none (some m) p2) (.ref a) (.ref s3.heap.objs.size)) (EP X pins σ Q) X.xe { s3 with heap := s3.heap.push { cls := .type "slice", data := .fields #[.none, .none, .int (-1) t] } }
  refine tail_any (ops := [.ref a, .ref s3.heap.objs.size]) ht.isList.typeIs slot_list_getitem.lookup ?_ (by with_unfolding_all rfl)
  refine wpAny_getItem_list_slice ht.isList (Heap.IsSliceOf.new ..) .none .none (.int (-1) t) (by decide) ?_ (by rw [List.size_toArray] <;> omega)
  rw [PySem.W.krv_pick]
  refine ⟨.ref _, _, I4.laid (t' := s3.toks) (o := .lst xs.reverse) (fun b ob q => Heap.get?_push_of_some _ q) (Nat.le_refl _) ?_, rfl, q _ (I4.hok.fresh (Nat.le_refl _))⟩
  exact ⟨by rw [List.length_reverse]; exact hz, _, 0, r.reverse, Heap.get?_push_size _ rfl⟩
theorem pe_revK {X : Cx} {e m : Expr} {te : TE} {p2 pos : Pos} (K : PySem.W.Frag) (he : PE X e te) (hm : PE X m (tC (.int (-1)))) (h : X.K = K := by rfl) : PE X (.Subscript e (.Slice none none (some m) p2) pos) (tRev K te) := h ▸ pe_rev he hm
theorem tst {b : Bool} {A B : Prop} (h1 : b = true → A) (h0 : b = false → B) : if b = true then A else B := by
  cases b
  · exact h0 rfl
  · exact h1 rfl
theorem sl_tupAK {X : Cx} (K : PySem.W.Frag) (h : X.K = K := by rfl) : SlR X (rSlA K) := h ▸ sl_tupA
/-! ### tuples whose object has no dict (so that their methods are reached) -/
def TupF (G : Hp) (a : Addr) (xs : List V) : Prop := ∃ o : Obj, o.dict = none ∧ G a = some (.frz o (.tup xs))
def Tu (G : Hp) (a : Addr) (xs : List V) : Prop := G a = some (.tup xs) ∨ TupF G a xs
theorem TupF.same {G G' : Hp} {a : Addr} {xs : List V} (e : Same G G') (h : TupF G a xs) : TupF G' a xs := let ⟨o, h1, h2⟩ := h; ⟨o, h1, e _ _ h2⟩
theorem Tu.same {G G' : Hp} {a : Addr} {xs : List V} (e : Same G G') (h : Tu G a xs) : Tu G' a xs := by
  rcases h with h | h
  · exact .inl (e _ _ h)
  · exact .inr (h.same e)
theorem Tu.sq {K : PySem.W.Frag} {H : Hp} {a : Addr} {xs : List V} (h : Tu H a xs) : SqT K H a xs := by
  rcases h with h | ⟨o, _, h⟩
  · exact .inl (.inl h)
  · exact .inl (.inr ⟨o, h⟩)
theorem Tu.ty {K : PySem.W.Frag} {H : Hp} {a : Addr} {xs : List V} (h : Tu H a xs) : TyX K H (.ref a) (.type "tuple") := by
  rcases h with h | ⟨o, _, h⟩
  · exact .base (.tup h)
  · exact .fTuple h
theorem TupF.tu {G : Hp} {a : Addr} {xs : List V} (h : TupF G a xs) : Tu G a xs := .inr h
section
variable {X : Cx} (K : PySem.W.Frag)
/-- tuple(xs) -/
def yTupF (K : PySem.W.Frag) : List V → Hp → VK → Prop := fun xs H Q => ∃ p ys, xs = [.ref p] ∧ ((SqL K H p ys ∧ ∀ l o, H l = none → o.dict = none → Q (.ref l) (upd H l (.frz o (.tup ys)))) ∨ (SqT K H p ys ∧ Q (.ref p) H))
theorem call_tupleFK (h : X.K = K := by rfl) : CallR X (.type "tuple") (yTupF K) := by
  subst h
  intro pins s σ H xs us Q I r h
  obtain ⟨p, ys, rfl, h⟩ := h
  obtain ⟨u, rfl, rx⟩ := vals1 r
  cases rx
  rcases h with ⟨hq, q⟩ | ⟨hq, q⟩
  · obtain ⟨its, r', pl, hz⟩ := I.list hq
    have hlen := r'.length
    refine call_tuple_list pl.isList (fun h' kp => ?_) (by simp only [List.size_toArray] <;> omega)
    have I1 : L2.Inv X pins σ H { s with heap := h' } := I.kept (t' := s.toks) kp
    have I2 : L2.Inv X pins σ (upd H h'.objs.size (.frz { cls := .type "tuple", data := .seq its.toArray } (.tup ys))) { s with heap := h'.push { cls := .type "tuple", data := .seq its.toArray } } :=
      I1.laid (t' := s.toks) (fun b o e => Heap.get?_push_of_some _ e) (Nat.le_refl _) (show ObjOk X.prog X.w _ _ _ (.frz { cls := .type "tuple", data := .seq its.toArray } (.tup ys)) from ⟨Heap.get?_push_size _ rfl, hz, its, r', IsTup.new _ _⟩)
    exact ⟨.ref h'.objs.size, _, I2, rfl, q _ _ (I1.hok.fresh (Nat.le_refl _)) rfl⟩
  · obtain ⟨its, r', pl, hz⟩ := I.tuple hq
    exact call_tuple_same pl ⟨.ref p, H, I, rfl, q⟩
/-- t.m(e, ..), t a tuple -/
def tTM (r : V → List V → Hp → VK → Prop) (to : TE) (t : TA) : TE := fun σ H Q => to σ H fun x H1 => (∃ a xs, x = .ref a ∧ TupF H1 a xs) ∧ t σ H1 fun vs H2 => r x vs H2 Q
theorem pe_tm {o e : Expr} {es : List Expr} {to : TE} {t : TA} {id : String} {name : Str} {apos cpos : Pos} {r : V → List V → Hp → VK → Prop} (slot : Slot "tuple" name id) (hty : typeOf (.builtin id) = pure (.type "method_descriptor")) (hm : MtR X id r) (ho : PE X o to) (ha : PA X (e :: es) t)
    (hbase : attributeBase o name X.env (eval o X.env) = eval o X.env := by rfl)
    (hfew : ((backTo cpos (starEach (e :: es) X.env)).all (fun x => !x.1) && (backToKw cpos (keywordEach [] X.env)).all (fun x => x.1.isSome)
      && decide ((e :: es).length + ([] : List Keyword).length + (if ([] : List Keyword).isEmpty then 0 else 1) < 30)) = true := by rfl)
    (hline : (apos.endLine == cpos.line) = true := by rfl) (hs : starEach (e :: es) X.env = (false, eval e X.env) :: starEach es X.env := by rfl) (hplain : (backTo cpos (starEach es X.env)).any (·.1) = false := by rfl) :
    PE X (.Call (.Attribute o name apos) (e :: es) [] cpos) (tTM r to t) := by
  refine ⟨fun pins s σ H Q I h => ?_⟩
  refine wpAny_Call_method_late hbase hfew hline rfl (thn (ho.run pins s σ H _ I h) fun v s1 ⟨x, H1, I1, r1, ty, q1⟩ => ?_)
  obtain ⟨a, xs, rfl, ob, hd, ha'⟩ := ty
  cases r1
  obtain ⟨h1, _, _, _, h2⟩ := I1.hok _ _ ha'
  refine ⟨"tuple", id, PySem.F.plainAttrs_tuple, slot, hty, ⟨ob, h1, ?_⟩, fun b e => ?_, ?_⟩
  · obtain ⟨ob', e1, e2, _⟩ := h2
    rw [h1] at e1
    rw [Option.some.inj e1]
    exact e2
  · cases e
    exact ⟨ob, h1, hd⟩
  have hA := ha.run cpos pins s1 σ H1 _ I1 q1
  rw [hs] at hA ⊢
  refine Calls.callWith_builtin (by show (false || (backTo cpos (starEach es X.env)).any (·.1)) = false; rw [hplain] <;> rfl) (Calls.evalArgs_plain ?_)
  exact thn hA fun us s2 ⟨vs, H2, I2, r2, q2⟩ => hm pins s2 σ H2 (V.ref a) vs (.ref a) us Q I2 rfl r2 q2
end
/-- t[lo:hi]: the whole of it is t itself -/
def rSlF (K : PySem.W.Frag) : V → Option Int → Option Int → Hp → VK → Prop := fun x lo hi H Q => ∃ a xs, x = .ref a ∧ SqT K H a xs ∧
  (HT.sIx xs.length 0 lo = 0 ∧ HT.sIx xs.length xs.length hi = xs.length → Q (.ref a) H) ∧ (¬ (HT.sIx xs.length 0 lo = 0 ∧ HT.sIx xs.length xs.length hi = xs.length) → ∀ p ob, H p = none → ob.dict = none → Q (.ref p) (upd H p (.frz ob (.tup (cutV xs lo hi)))))
theorem sl_tupFK {X : Cx} (K : PySem.W.Frag) (h : X.K = K := by rfl) : SlR X (rSlF K) := by
  subst h
  intro pins s σ H x v vl vu lo hi sl Q I rx hs pl pu h
  obtain ⟨a, xs, rfl, hx, q1, q2⟩ := h
  by_cases hw : HT.sIx xs.length 0 lo = 0 ∧ HT.sIx xs.length xs.length hi = xs.length
  · exact sl_tupA pins s σ H _ v vl vu lo hi sl Q I rx hs pl pu ⟨a, xs, rfl, hx, q1, fun z => absurd hw z⟩
  · cases rx
    obtain ⟨its, r, ht, hz⟩ := I.tuple hx
    have hlen : its.toArray.size = xs.length := by rw [List.size_toArray]; exact r.length.symm
    refine ⟨"tuple", _, PyProof.Rows.slot_tuple_getitem.lookup, ht.typeIs, ?_⟩
    refine HT.getItem_tuple_cut ht hs pl pu (by rw [hlen]; exact hw) ?_ (by rw [hlen]; exact hz)
    rw [hlen]
    refine ⟨.ref s.heap.objs.size, _, I.laid (t' := s.toks) (o := .frz { cls := .type "tuple", data := .seq (List.take (HT.sIx xs.length xs.length hi - HT.sIx xs.length 0 lo) (List.drop (HT.sIx xs.length 0 lo) its.toArray.toList)).toArray } (.tup (cutV xs lo hi))) (fun b ob q => Heap.get?_push_of_some _ q) (Nat.le_refl _) ?_, rfl, q2 hw _ _ (I.hok.fresh (Nat.le_refl _)) ?_⟩
    · exact ⟨Heap.get?_push_size _ rfl, Nat.le_trans (cutV_length xs lo hi) hz, _, (r.drop (HT.sIx xs.length 0 lo)).take (HT.sIx xs.length xs.length hi - HT.sIx xs.length 0 lo), IsTup.new _ _⟩
    · rfl
theorem Sep.sub {G H : Hp} {M M' : List (Addr × HO)} (S : Sep G M H) (h : M'.Sublist M) : Sep G M' H := ⟨S.1, fun p hp => S.2.1 p (h.subset hp), List.Nodup.sublist (h.map _) S.2.2⟩
theorem Sep.rot2 {G H : Hp} {a b c d : Addr × HO} {M : List (Addr × HO)} (S : Sep G (a :: b :: c :: d :: M) H) : Sep G (c :: d :: a :: b :: M) H := S.perm (List.perm_append_comm_assoc [a, b] [c, d] M)
theorem Sep.no3 {G H : Hp} {a b c : Addr × HO} {M : List (Addr × HO)} (S : Sep G (a :: b :: c :: M) H) : Sep G (a :: b :: M) H := S.sub ((List.sublist_cons_self c M).cons₂ b |>.cons₂ a)
/-! ### lists of ints, of pairs of ints, as data -/
def prd (p : Int × Int) : PyData := .tuple [.int p.1, .int p.2]
theorem prd_can (p : Int × Int) : (prd p).canLay0 = true := by simp [prd, PyData.canLay0, PyData.canLayAll0]
theorem prd_shaped (p : Int × Int) : SeqAt.shaped (prd p) = true := by
  unfold SeqAt.shaped
  rw [prd_can]
  simp [prd, PyData.depth, PyData.depthAll]
theorem prds_can : ∀ ps : List (Int × Int), PyData.canLayAll0 (ps.map prd) = true
  | [] => by simp [PyData.canLayAll0]
  | p :: r => by simp [PyData.canLayAll0, prd_can p, prds_can r]
theorem ints_can : ∀ ns : List Int, PyData.canLayAll0 (ns.map PyData.int) = true
  | [] => by simp [PyData.canLayAll0]
  | n :: r => by simp [PyData.canLayAll0, PyData.canLay0, ints_can r]
theorem prd_eqv (p q : Int × Int) : PyData.eqv (prd p) (prd q) = decide (p = q) := by
  obtain ⟨a, b⟩ := p
  obtain ⟨c, d⟩ := q
  simp only [prd, PyData.eqv, PyData.eqvAll, Bool.and_true]
  by_cases h1 : a = c <;> by_cases h2 : b = d <;> simp [h1, h2]
theorem int_shaped (n : Int) : SeqAt.shaped (.int n) = true := by simp [SeqAt.shaped, PyData.canLay0, PyData.depth]
theorem ints_dp {K : PySem.W.Frag} {H : Hp} : ∀ ns : List Int, DpAll K H (ns.map V.int) (ns.map PyData.int)
  | [] => .nil
  | n :: r => .cons (.int n) (ints_dp r)
theorem any_ints (n : Int) (ns : List Int) : ((ns.map PyData.int).any fun z => PyData.eqv z (.int n)) = decide (n ∈ ns) := by
  induction ns with
  | nil => rfl
  | cons m r ih =>
    rw [List.map_cons, List.any_cons, ih]
    show ((m == n) || decide (n ∈ r)) = decide (n ∈ m :: r)
    by_cases e : n = m
    · subst e; simp
    · have e2 : ¬ m = n := fun q => e q.symm
      simp [e, e2]
theorem any_prds (p : Int × Int) (ps : List (Int × Int)) : ((ps.map prd).any fun z => PyData.eqv z (prd p)) = decide (p ∈ ps) := by
  induction ps with
  | nil => rfl
  | cons q r ih =>
    rw [List.map_cons, List.any_cons, ih, prd_eqv]
    by_cases e : p = q
    · subst e; simp
    · have e2 : ¬ q = p := fun h => e h.symm
      simp [e, e2]
end XL
set_option Elab.async false
set_option linter.all false
set_option maxRecDepth 100000
set_option maxHeartbeats 4000000
/-! XOwn: o[i], o[i] = v by own methods. -/
namespace XL
open PySem PySem.Spec PyProof.Rows L2
section
variable {X : Cx} {CX : CXT} {C f : Addr} {fd : FuncData} {ps : List Str} {sp : Sp} {E : XK} {n : Nat} {o i : Expr} {to ti : TE} {pos : Pos}
def yIxO (C : Addr) (sp : Sp) (E : XK) : R2 := fun x y H Q => ∃ a dx fs, x = .ref a ∧ H a = some (.ins C dx fs) ∧ sp [.ref a, y] H Q E
theorem pe_ixO (ho : PE X o to) (hi : PE X i ti) (F : FnOk X.prog X.w X.K X.mg X.base CX n f fd ps sp) (hs : PySem.W.findIn X.K (.ref C) "__getitem__" = some (some (.ref f))) (hf : PySem.W.fnIn X.K f = true) (hfn : PySem.W.isFn X.K (.ref f) = true)
    (hb : Binds X.K fd ps []) (hx : Passes CX X E) (hr : Room (n + 1) X.A) (hsl : ∀ x v, subscripted i true (.ref x) v = runValue (.builtin "lifetime.subscript" ⟨[.ref x, v], []⟩) := by intro _ _; with_unfolding_all rfl) :
    PE X (.Subscript o i pos) (tOp (yIxO C sp E) to ti) := by
  refine ⟨fun pins s σ H Q I h => ?_⟩
  refine Subscript_ (thn (ho.run pins s σ H _ I h) fun v s1 ⟨x, H1, I1, r1, q1⟩ => thn (hi.run pins s1 σ H1 _ I1 q1) fun u s2 ⟨y, H2, I2, r2, q2⟩ => ?_)
  obtain ⟨a, dx, fs, rfl, ha, hsp⟩ := q2
  cases r1
  obtain ⟨mA, J, _⟩ := ins_get I2.hok ha
  obtain ⟨od, J, _⟩ := J.look
  obtain ⟨m, hF⟩ := I2.fr
  refine PySem.W.sub_K hF I2.ok.mod.kin J hs hf hfn ?_ (hsl _ _)
  have hl : ([Value.ref a, u] ++ []).length = ps.length := F.len _ _ _ _ hsp
  refine wpAny_call (codeAny_mono (F.run X.A.in1 X.stack s2 H2 ⟨[.ref a, u], []⟩ [.ref a, u] [.ref a, y] Q E hr.in1 I2.env0.in1 (hb s2 [.ref a, u] I2.kIn hl) (.cons rfl (.cons r2 .nil)) hsp) fun r s' hq => ?_)
  cases r with
  | error e => exact hx pins σ H2 s2 e s' I2 hq
  | ok fl =>
    cases fl with
    | ret u => exact I2.after hq
    | next => exact False.elim hq
    | brk => exact False.elim hq
    | cont => exact False.elim hq
def yStO (C : Addr) (sp : Sp) (E : XK) : TSet := fun x y v H Q => ∃ a dx fs, x = .ref a ∧ H a = some (.ins C dx fs) ∧ sp [.ref a, y, v] H (fun _ H' => Q H') E
theorem set_own (F : FnOk X.prog X.w X.K X.mg X.base CX n f fd ps sp) (hq : PySem.W.noSeq X.K C = true) (hs : PySem.W.findIn X.K (.ref C) "__setitem__" = some (some (.ref f))) (hfn : PySem.W.isFn X.K (.ref f) = true)
    (hb : Binds X.K fd ps []) (hx : Passes CX X E) (hr : Room n X.A) : PSet X (yStO C sp E) := by
  intro pins s σ H x y v xv yv vv Q I rx ry rv h
  obtain ⟨a, dx, fs, rfl, ha, hsp⟩ := h
  cases rx
  obtain ⟨mA, J, _⟩ := ins_get I.hok ha
  obtain ⟨od, J, _⟩ := J.look
  obtain ⟨m, hF⟩ := I.fr
  refine PySem.W.ksp_setItem hF I.ok.mod.kin J hq hs hfn ?_
  refine wpAny_mono (run_fn (us := [.ref a, yv, vv]) (vs := [.ref a, y, v]) (dvs := []) F hr hb .nil hx I (.cons rfl (.cons ry (.cons rv .nil))) hsp) (fun r s' q => ?_) fun _ _ e => e
  obtain ⟨z, H', I', rz, q⟩ := q
  exact ⟨H', I', q⟩
end
end XL
set_option Elab.async false
set_option linter.all false
set_option maxRecDepth 100000
set_option maxHeartbeats 4000000
/-! XTup: tuples made by a display or by +, as objects without a dict. -/
namespace XL
open PySem PySem.Spec PyProof.Rows L2
section
variable {X : Cx} {es : List Expr} {t : TA} {pos : Pos}
def tTupF (t : TA) : TE := fun σ H Q => t σ H fun xs H1 => xs.length ≤ sizeLine ∧ ∀ p ob, H1 p = none → ob.dict = none → Q (.ref p) (upd H1 p (.frz ob (.tup xs)))
theorem pe_tupF {x1} (h : PA X es t) : PE X (.Tuple es x1 pos) (tTupF t) := by
  refine ⟨fun pins s σ H Q I hq => ?_⟩
  refine wpAny_Tuple_spliced (thn (h.run pos pins s σ H _ I hq) fun us s1 ⟨xs, H1, I1, r, z, q⟩ => ⟨by rw [← r.length]; exact z, ?_⟩)
  have hf : H1 s1.heap.objs.size = none := I1.hok.fresh (Nat.le_refl _)
  refine ⟨.ref s1.heap.objs.size, _, I1.laid (t' := s1.toks) (o := .frz { cls := .type "tuple", data := .seq us.toArray } (.tup xs)) (fun b u e => Heap.get?_push_of_some _ e) (Nat.le_refl _) ?_, rfl, q _ _ hf rfl⟩
  exact ⟨Heap.get?_push_size _ rfl, z, us, r, ⟨_, Heap.get?_push_size _ rfl, rfl, _, rfl⟩⟩
def rCatF (K : PySem.W.Frag) : R2 := fun x y H Q => ∃ a b xs ys, x = .ref a ∧ y = .ref b ∧ SqT K H a xs ∧ SqT K H b ys ∧ xs.length + ys.length ≤ sizeLine ∧
  (xs = [] → Q (.ref b) H) ∧ (xs ≠ [] → ys = [] → Q (.ref a) H) ∧ (xs ≠ [] → ys ≠ [] → ∀ p ob, H p = none → ob.dict = none → Q (.ref p) (upd H p (.frz ob (.tup (xs ++ ys)))))
theorem op_catFK (K : PySem.W.Frag) (h : X.K = K := by rfl) : OpR X (binaryOp .Add) (rCatF K) := by
  subst h
  intro pins s σ H x y v u Q I rx ry h
  obtain ⟨a, b, xs, ys, rfl, rfl, ha, hb, hz, q0, q1, q2⟩ := h
  by_cases hx : xs = []
  · exact op_catA pins s σ H _ _ v u Q I rx ry ⟨a, b, xs, ys, rfl, rfl, ha, hb, hz, q0, fun z => absurd hx z, fun z => absurd hx z⟩
  · cases rx
    cases ry
    obtain ⟨its, r1, p1, _⟩ := I.tuple ha
    obtain ⟨its2, r2, p2, _⟩ := I.tuple hb
    refine HT.cat_tup p1 p2 (fun z => hx (r1.nil_iff.mp z)) (fun z => ⟨.ref a, H, I, rfl, q1 hx (r2.nil_iff.mp z)⟩) (fun z => ?_) (by rw [← r1.length, ← r2.length]; exact hz)
    refine ⟨.ref s.heap.objs.size, _, I.laid (t' := s.toks) (o := .frz { cls := .type "tuple", data := .seq (its ++ its2).toArray } (.tup (xs ++ ys))) (fun b ob q => Heap.get?_push_of_some _ q) (Nat.le_refl _) ?_, rfl, q2 hx (fun w => z (r2.nil_iff.mpr w)) _ _ (I.hok.fresh (Nat.le_refl _)) rfl⟩
    exact ⟨Heap.get?_push_size _ rfl, by rw [List.length_append]; exact hz, _, r1.append r2, IsTup.new _ _⟩
end
section
variable {K : PySem.W.Frag} {a : Addr} {xs : List V} {Qd : Hp → Prop} {B : V → Hp → (Hp → Prop) → Prop} {H0 : Hp}
/-- a clause of a comprehension over a list -/
theorem loopL (Pv : Nat → Hp → Prop) (h0 : Pv 0 H0) (hl : ∀ k H, Pv k H → SqL K H a xs) (hs : ∀ k x H, xs[k]? = some x → Pv k H → B x H (Pv (k + 1))) (hd : ∀ H, Pv xs.length H → Qd H) :
    ∃ W : Nat → Nat → Hp → Prop, (∃ m, W 0 m H0) ∧ ∀ i m H, W i m H → ((Itl K a).stop i H ∧ Qd H) ∨ ((Itl K a).go i H ∧ ∃ Nx : Hp → Prop, (∀ H', Nx H' → ∃ m', m' < m ∧ W (i + 1) m' H') ∧ ∀ x H', (Itl K a).yld i H x H' → B x H' Nx) := by
  refine ⟨fun i m H => m = xs.length - i ∧ i ≤ xs.length ∧ Pv i H, ⟨xs.length, by simp, Nat.zero_le _, h0⟩, ?_⟩
  rintro i m H ⟨rfl, hi, p⟩
  have q := hl i H p
  by_cases hlt : i < xs.length
  · refine .inr ⟨⟨xs, xs[i], q, by simp [hlt]⟩, Pv (i + 1), fun H' p' => ⟨xs.length - (i + 1), by omega, rfl, hlt, p'⟩, fun x H' y => ?_⟩
    obtain ⟨e, y⟩ := y
    subst e
    exact hs i x _ (y xs q) p
  · have e : i = xs.length := by omega
    subst e
    exact .inl ⟨⟨xs, q, Nat.le_refl _⟩, hd H p⟩
/-- a clause of a comprehension over a range -/
theorem loopR {lo : Int} {n : Nat} (Pv : Nat → Hp → Prop) (h0 : Pv 0 H0) (hs : ∀ k H, k < n → Pv k H → B (.int (lo + k)) H (Pv (k + 1))) (hd : ∀ H, Pv n H → Qd H) :
    ∃ W : Nat → Nat → Hp → Prop, (∃ m, W 0 m H0) ∧ ∀ i m H, W i m H → ((Itr lo n).stop i H ∧ Qd H) ∨ ((Itr lo n).go i H ∧ ∃ Nx : Hp → Prop, (∀ H', Nx H' → ∃ m', m' < m ∧ W (i + 1) m' H') ∧ ∀ x H', (Itr lo n).yld i H x H' → B x H' Nx) := by
  refine ⟨fun i m H => m = n - i ∧ i ≤ n ∧ Pv i H, ⟨n, by simp, Nat.zero_le _, h0⟩, ?_⟩
  rintro i m H ⟨rfl, hi, p⟩
  by_cases hlt : i < n
  · refine .inr ⟨hlt, Pv (i + 1), fun H' p' => ⟨n - (i + 1), by omega, rfl, hlt, p'⟩, fun x H' y => ?_⟩
    obtain ⟨e, y⟩ := y
    subst e y
    exact hs i _ hlt p
  · have e : i = n := by omega
    subst e
    exact .inl ⟨Nat.le_refl _, hd H p⟩
/-- row + (item,) -/
theorem cat_one {G H : Hp} {M : List (Addr × HO)} {r : Addr} {n : List Int} {i : Int} {Q : VK} (S : Sep G M H) (hr : TupF G r (n.map V.int)) (hl : n.length ≤ 1000)
    (q : ∀ (p : Addr) (G' H' : Hp), Same G G' → Sep G' M H' → TupF G' p ((n ++ [i]).map V.int) → Q (.ref p) H') :
    [V.int i].length ≤ sizeLine ∧ ∀ p ob, H p = none → ob.dict = none → rCatF K (.ref r) (.ref p) (upd H p (.frz ob (.tup [.int i]))) Q := by
  refine ⟨sz, fun p ob np hob => ?_⟩
  have S1 := S.newG (o := .frz ob (.tup [.int i])) np
  have s1 := S.grow (o := .frz ob (.tup [.int i])) np
  have h1 : TupF (upd G p (.frz ob (.tup [.int i]))) p [.int i] := ⟨ob, hob, upd_same⟩
  refine ⟨r, p, n.map V.int, [.int i], rfl, rfl, ((hr.same s1).same S1.1).tu.sq, (h1.same S1.1).tu.sq, small (by rw [List.length_map]; simp; omega), fun e => ?_, fun _ e => (nomatch e), fun _ _ p2 ob2 np2 hob2 => ?_⟩
  · have e2 : n = [] := List.map_eq_nil_iff.mp e
    subst e2
    exact q p _ _ s1 S1 h1
  · have e3 : n.map V.int ++ [V.int i] = (n ++ [i]).map V.int := by rw [List.map_append]; rfl
    rw [e3]
    exact q p2 _ _ (s1.trans (S1.grow np2)) (S1.newG np2) ⟨ob2, hob2, upd_same⟩
end
end XL
set_option Elab.async false
set_option linter.all false
set_option maxRecDepth 100000
set_option maxHeartbeats 4000000
/-! XExc: an error of the program's own, class E(ScreenError): __init__(self, x): super().__init__(f'..{x!r}'); self.x = x: made, raised, caught. -/
namespace PySem
namespace XExc
open PySem.W PySem.Calls PyProof.Rows PySem.HandSPX
/-! ### the text of __init__ -/
def iA (fld : Str) (p1 p2 : Pos) : Arguments := { posonlyargs := [], args := [{ arg := "self", annotation := none, pos := p1 }, { arg := fld, annotation := none, pos := p2 }], vararg := none, kwonlyargs := [], kw_defaults := [], kwarg := none, defaults := [] }
structure Ps where
  a : Pos
  b : Pos
  c : Pos
  d : Pos
  e : Pos
  f : Pos
  g : Pos
  h : Pos
  i : Pos
  j : Pos
  k : Pos
  l : Pos
  m : Pos
  cv : Int
  cp : cv = 114 ∨ cv = -1
def iSup (q : Ps) : Expr := .Call (.Name "super" q.a) [] [] q.b
def iArg (fld : Str) (msg : Str) (q : Ps) : Expr := .JoinedStr [.Constant (.str msg) 0 q.d, .FormattedValue (.Name fld q.e) q.cv none q.f] q.g
def iCall (fld : Str) (msg : Str) (q : Ps) : Expr := .Call (.Attribute (iSup q) "__init__" q.c) [iArg fld msg q] [] q.h
def iB (fld : Str) (msg : Str) (q : Ps) : List Stmt := [.Expr (iCall fld msg q) q.i, .Assign [.Attribute (.Name "self" q.j) fld q.k] (.Name fld q.l) q.m]
/-- how the call is evaluated (the positions decide nothing here) -/
def Evals (fld msg : Str) (q : Ps) : Prop := ∃ pl : Env → Sem Bool, ∀ env : Env, eval (iCall fld msg q) env = (do
  let ov ← attributeBase (iSup q) "__init__" env (eval (iSup q) env)
  standAt q.c.atName
  let (f, first) ← holding [ov] (getMethod ov "__init__" (pl env))
  callWith q.h f first (backTo q.h (starEach [iArg fld msg q] env)) [])
def iN (fld : Str) : List (Str × NameKind) := [(PySem.Str.ofString "self", .local), (fld, .local), (PySem.Str.ofString "__class__", .free), (PySem.Str.ofString "super", .globalImplicit)]
def iS (fld : Str) : Scope := { kind := .function, names := iN fld, isGenerator := false, isCoroutine := false, more := [] }
/-- what the written part says of the class at C and of its __init__ at fI -/
structure ExTxt (P : Program) (K : Frag) (mg : Str → Option Value) (nm fld msg : Str) (C fI : Addr) : Prop where
  gC : mg nm = some (.ref C)
  cls : ∃ nm q N bs bm sn sub ab col dd k0 k1 k2 k3 k5, K.lookup C = some (excClassObj nm q C N bs bm true sn sub ab col dd k0 k1 k2 k3 k5 "ValueError.__new__") ∧ refsVE bm = true
  sa : findIn K (.ref C) "__setattr__" = some (some (.builtin "object.__setattr__"))
  ga : findIn K (.ref C) "__getattribute__" = some (some (.builtin "BaseException.__getattribute__"))
  gg : findIn K (.ref C) "__getattr__" = some none
  noN : findIn K (.ref C) fld = some none
  iC : findIn K (.ref C) "__init__" = some (some (.ref fI))
  tC : typeIn K (.ref fI) = some (.type "function")
  kC : keepIn K (.ref C) = true
  exC : subIn K (.ref C) (.type "BaseException") = some true
  tyC : typeIn K (.ref C) = some (.type "type")
  hdC : hasDictIn K C = true
  fn : ∃ (oc kV doc pm ct : Value) (od an : Option Addr) (osl : Array (Option Value)) (qual : Str) (cda cc : Addr) (p1 p2 : Pos) (q : Ps) (vs : Array Value) (file : Str) (tf : Tok) (ccl cl : Value) (cdd cld : Option Addr) (ccs csl : Array (Option Value)),
    K.lookup fI = some ⟨oc, od, .func (ksFn "__init__" qual (iA fld p1 p2) (iB fld msg q) (iS fld) .none kV doc pm an (.ref cda) ct cc), osl⟩ ∧ codeIn K (.ref cda) qual = true ∧ K.lookup cda = some ⟨ccl, cdd, .fields vs, ccs⟩ ∧ vs[2]? = some (.str file tf) ∧
    ((P.main.file : Str) == file) = true ∧ K.lookup cc = some ⟨cl, cld, .cell (some (.ref C)), csl⟩ ∧ Evals fld msg q ∧
    ∀ x v : Value, bindArgs (ksFn "__init__" qual (iA fld p1 p2) (iB fld msg q) (iS fld) .none kV doc pm an (.ref cda) ct cc) ⟨[x, v], []⟩ = pure [(("self" : Str), x), (fld, v)]
  sup : ks_superIn K C C "__init__" = some (some (.builtin "ValueError.__init__"))
  subV : subIn K (.ref C) (.type "ValueError") = some true
  mroS : mroIn K C (.ref C) = some true
  opq : nsIn K cStatics "thirdparty.any" = some none
  htop : (P.main.scope.names.lookup ("super" : Str)).isSome = false
  hsup : mg "super" = none
  f1 : fld ≠ "self"
  f2 : fld ≠ "__class__"
  f3 : fld ≠ "super"
  f4 : (fld == ("__debug__" : Str)) = false
  ml : msg.length ≤ 1000
/-- where the program stands -/
def PF (P : Program) (fl : Str) : Prop := ((P.main.file : Str) == fl) = true ∧ (P.main.scope.names.lookup ("super" : Str)).isSome = false
/-- what can be told in the message -/
def Rp (v : Value) : Prop := (∃ (y : Str) (t : Tok), v = .str y t ∧ (reprText y).length ≤ 100000) ∨ ∃ (i : Int) (t : Tok), v = .int i t ∧ i.natAbs.log2 < 1920
structure InitEnd (h h' : Heap) (x C dx : Addr) (fld : Str) (v : Value) : Prop where
  keep : ∀ b o, b ≠ x → h.get? b = some o → h'.get? b = some o
  obj : ∃ t1 : Addr, h'.get? x = some { cls := .ref C, dict := some dx, data := .fields #[.ref t1, .none, .none, .none, .bool false, .none] }
  dbig : h.objs.size ≤ dx
  dne : dx ≠ x
  ns : h'.Ns1 dx (fun y => if y = fld then some v else none)
structure OwnMade (h h' : Heap) (e C d : Addr) (fld : Str) (v : Value) : Prop where
  keep : ∀ b o, h.get? b = some o → h'.get? b = some o
  new : h.objs.size ≤ e
  obj : ∃ oe vs, h'.get? e = some oe ∧ oe.cls = .ref C ∧ oe.dict = some d ∧ oe.data = .fields vs ∧ vs[1]? = some .none
  dbig : h.objs.size ≤ d
  dne : d ≠ e
  ns : h'.Ns1 d (fun y => if y = fld then some v else none)
section
variable {prog : Program} {w : World} {A : Around} {E : Value → Shared → Prop} {h : Heap} {g : Array GenState} {d : Drawn} {t : Nat} {os : OsState}
variable {nm q : Str} {C N : Addr} {bs bm : List Value} {hdct : Bool} {sn : List Str} {sub : List Value} {ab : Bool} {col : Option Bool} {dd : Option Addr} {k0 k1 k2 k3 k5 : Option Value}
theorem call_mw {u e t0 : Addr} {rest : List Value} {Q : Value → Shared → Prop}
    (hC : h.get? C = some (excClassObj nm q C N bs bm hdct sn sub ab col dd k0 k1 k2 k3 k5 "ValueError.__new__")) (he : h.get? e = some (excO C t0)) (hu : h.get? u = some (kxs_mw "ValueError.__init__" e)) (hrest : rest.length ≤ sizeLine)
    (hq : ∀ h' t1, (∀ b o, b ≠ e → h.get? b = some o → h'.get? b = some o) → h.objs.size ≤ h'.objs.size → h'.get? e = some (excO C t1) → Q .none ⟨h', g, d, t, os⟩) :
    wpAny (model prog w) A (call (.ref u) rest) Q E ⟨h, g, d, t, os⟩ := by
  refine wpAny_call (codeAny_of_tree ?_)
  show wpAny _ A.in1 (callAny (.ref u) ⟨rest, []⟩) _ _ _
  simp only [callAny]
  refine wpAny_bind (wpAny_load hu ?_)
  simp only [kxs_mw, show (Value.type "method-wrapper" == Value.type "method" || Value.type "method-wrapper" == Value.type "builtin_function_or_method" || Value.type "method-wrapper" == Value.type "method-wrapper") = true by decide, if_true]
  refine W.KFB.if_so (by decide) ?_
  refine wpAny_bind (check_bound_init F.excBase_ValueError.toExcCallFacts hC he rfl ?_)
  refine wpAny_bind (wpAny_pure (wpAny_pure ?_))
  refine ⟨plainId_quiet F.excBase_ValueError.init.plain _, codeAny_builtin F.excBase_ValueError.initEntry ?_⟩
  rw [Around.under_plainId F.excBase_ValueError.init.plain _]
  wp_walk
  refine hq _ h.objs.size (fun b o hb ho => ?_) ?_ ?_
  · rw [Heap.get?_update_other _ _ (Ne.symm hb)]
    exact Heap.get?_push_of_some _ ho
  · simp [Heap.size_push]
  · rw [Heap.get?_update_self _ (Heap.get?_push_of_some _ he) rfl]
    rfl
end
section
variable {prog : Program} {w : World} {A : Around} {E : Value → Shared → Prop} {R : Result → Shared → Prop} {s : Shared} {K : Frag} {mg mb : Str → Option Value} {nm fld msg : Str} {C fI : Addr}
theorem one_size (v : Value) : [v].length ≤ sizeLine := by
  rw [sizeLine_eq]
  exact (by decide : 1 ≤ 16777216)
theorem reprChar_ge (q c : Nat) : 1 ≤ (Builtin.Str.reprChar q c).length := by
  unfold Builtin.Str.reprChar
  dsimp only
  repeat' split
  all_goals simp only [List.length_append, List.length_cons, List.length_nil]
  all_goals omega
theorem foldl_repr_ge1 (q : Nat) : ∀ (l : List Nat) (acc : Array Nat), acc.size + l.length ≤ (l.foldl (fun out c => out ++ (Builtin.Str.reprChar q c).toArray) acc).size
  | [], acc => Nat.le_refl _
  | c :: r, acc => by
    have ih := foldl_repr_ge1 q r (acc ++ (Builtin.Str.reprChar q c).toArray)
    have hc := reprChar_ge q c
    simp only [List.foldl_cons, List.length_cons]
    simp only [Array.size_append, List.size_toArray] at ih
    omega
theorem reprText_ge (x : Str) : x.length ≤ (reprText x).length := by
  unfold reprText
  show x.length ≤ ((x.cps.foldl (fun out c => out ++ (Builtin.Str.reprChar (reprQuote x) c).toArray) #[reprQuote x]).push (reprQuote x)).size
  rw [Array.size_push, ← Array.foldl_toList]
  have := foldl_repr_ge1 (reprQuote x) x.cps.toList #[reprQuote x]
  have e : x.cps.toList.length = x.length := by simp [Str.length]
  rw [e] at this
  omega
/-- f'..{v!r}' -/
theorem told_ok {env : Env} {q : Ps} {m : Str → Option Value} {v : Value} {Q : Value → Shared → Prop} (hn : s.heap.Ns env.locals m) (hv : m fld = some v) (hr : Rp v) (hml : msg.length ≤ 1000) (hk : env.scope.kind = .function) (hl : env.kindOf fld = some .local) (hd : (fld == ("__debug__" : Str)) = false)
    (h : ∀ u tk, Q u { s with toks := tk }) : wpAny (model prog w) A (eval (iArg fld msg q) env) Q E s := by
  unfold iArg
  have sm : ∀ n : Nat, n ≤ 200000 → n ≤ sizeLine := fun n hn => Nat.le_trans hn (by decide)
  rcases q.cp with ecv | ecv
  · rw [ecv]
    refine wpAny_JoinedStr ?_
    have e0 : evalEach [Expr.Constant (.str msg) 0 q.d, .FormattedValue (.Name fld q.e) 114 none q.f] env = [eval (.Constant (.str msg) 0 q.d) env, eval (.FormattedValue (.Name fld q.e) 114 none q.f) env] := by first | rfl | simp [evalEach]
    rw [e0]
    refine Calls.Constant_str ⟨msg, _, rfl, ?_, ?_⟩
    · rw [Str.length_append]
      exact sm _ (by show 0 + msg.length ≤ _; omega)
    refine wpAny_FormattedValue_repr (ESX.ldL hn hv ?_ hk hl hd)
    rcases hr with ⟨y, t, rfl, hz⟩ | ⟨i, t, rfl, hz⟩
    · have hz' : (reprText y).length ≤ sizeLine := sm _ (by omega)
      have out : ∀ (tk : Tok) (tt : Nat), ∃ (y' : Str) (t' : Tok), Value.str (reprText y) tk = .str y' t' ∧ (Str.empty ++ msg ++ y').length ≤ sizeLine ∧ Joins (model prog w) A E [] (Str.empty ++ msg ++ y') (fun out s₁ => out.length ≤ sizeLine ∧ Q (.str out s₁.toks) { s₁ with toks := s₁.toks + 1 }) { s with toks := tt } := fun tk tt => by
        have hl : (Str.empty ++ msg ++ reprText y).length ≤ sizeLine := by
          rw [Str.length_append, Str.length_append]
          exact sm _ (by show 0 + msg.length + _ ≤ _; omega)
        exact ⟨_, _, rfl, hl, hl, h _ _⟩
      exact pyReprObj_str (wpAny_formatField_str (out _ _) (out _ _) hz') hz'
    · have hz' := int_text_fits hz
      have ln : (toString i : Str).length ≤ 100000 := by
        have e := int_text_length_le (k := 1920) (by decide) hz
        show (Str.ofString (toString i)).length ≤ 100000
        rw [ofString_length]
        omega
      have out : ∀ (tk : Tok) (tt : Nat), ∃ (y' : Str) (t' : Tok), Value.str (toString i) tk = .str y' t' ∧ (Str.empty ++ msg ++ y').length ≤ sizeLine ∧ Joins (model prog w) A E [] (Str.empty ++ msg ++ y') (fun out s₁ => out.length ≤ sizeLine ∧ Q (.str out s₁.toks) { s₁ with toks := s₁.toks + 1 }) { s with toks := tt } := fun tk tt => by
        have hl : (Str.empty ++ msg ++ (toString i : Str)).length ≤ sizeLine := by
          rw [Str.length_append, Str.length_append]
          exact sm _ (by show 0 + msg.length + _ ≤ _; omega)
        exact ⟨_, _, rfl, hl, hl, h _ _⟩
      exact pyReprObj_int hz (wpAny_formatField_str (out _ _) (out _ _) hz')
  · rw [ecv]
    refine wpAny_JoinedStr ?_
    have e0 : evalEach [Expr.Constant (.str msg) 0 q.d, .FormattedValue (.Name fld q.e) (-1) none q.f] env = [eval (.Constant (.str msg) 0 q.d) env, eval (.FormattedValue (.Name fld q.e) (-1) none q.f) env] := by first | rfl | simp [evalEach]
    rw [e0]
    refine Calls.Constant_str ⟨msg, _, rfl, ?_, ?_⟩
    · rw [Str.length_append]
      exact sm _ (by show 0 + msg.length ≤ _; omega)
    refine wpAny_FormattedValue_plain (ESX.ldL hn hv ?_ hk hl hd)
    rcases hr with ⟨y, t, rfl, hz⟩ | ⟨i, t, rfl, hz⟩
    · have hy := reprText_ge y
      have hl : (Str.empty ++ msg ++ y).length ≤ sizeLine := by
        rw [Str.length_append, Str.length_append]
        exact sm _ (by show 0 + msg.length + _ ≤ _; omega)
      have out : ∀ (tk : Tok) (tt : Nat), ∃ (y' : Str) (t' : Tok), Value.str y tk = .str y' t' ∧ (Str.empty ++ msg ++ y').length ≤ sizeLine ∧ Joins (model prog w) A E [] (Str.empty ++ msg ++ y') (fun out s₁ => out.length ≤ sizeLine ∧ Q (.str out s₁.toks) { s₁ with toks := s₁.toks + 1 }) { s with toks := tt } := fun tk tt => ⟨_, _, rfl, hl, hl, h _ _⟩
      exact wpAny_formatField_str (out _ _) (out _ _) (sm _ (by omega))
    · have hz' := int_text_fits hz
      have ln : (toString i : Str).length ≤ 100000 := by
        have e := int_text_length_le (k := 1920) (by decide) hz
        show (Str.ofString (toString i)).length ≤ 100000
        rw [ofString_length]
        omega
      have hl : (Str.empty ++ msg ++ (toString i : Str)).length ≤ sizeLine := by
        rw [Str.length_append, Str.length_append]
        exact sm _ (by show 0 + msg.length + _ ≤ _; omega)
      exact wpAny_formatField_int hz ⟨_, _, rfl, hl, hl, h _ _⟩
end
section
variable {prog : Program} {w : World} {A : Around} {E : Value → Shared → Prop} {R : Result → Shared → Prop} {K : Frag} {mg mb : Str → Option Value} {nm fld msg : Str} {C fI : Addr}
theorem kept_but {K : Frag} {h h' : Heap} {x : Addr} (X : K.In h) (hx : K.lookup x = none) (k : ∀ b o, b ≠ x → h.get? b = some o → h'.get? b = some o) : K.In h' := fun a o e =>
  k a o (fun z => by rw [z, hx] at e; cases e) (X a o e)
theorem exc_init (T : ExTxt prog K mg nm fld msg C fI) {x t0 : Addr} {v : Value} {hp : Heap} {g : Array GenState} {dr : Drawn} {tk : Nat} {os : OsState} (X : K.In hp) (hlim : hp.NoLimit) (hG : hp.Ns mainGlobals mg) (hB : hp.Ns builtinsNs mb) (hbb : ∀ x : Str, x ≠ "__name__" → mb x = bootBuiltins x)
    (hx : hp.get? x = some (excO C t0)) (hnx : K.lookup x = none) (hroom : A.depth < recursionLimit) (hr : Rp v)
    (hq : ∀ h' tk' dx, InitEnd hp h' x C dx fld v → R (.ok (.ret .none)) ⟨h', g, dr, tk', os⟩) :
    codeAny (model prog w) A (.call (.ref fI) ⟨[.ref x, v], []⟩) R ⟨hp, g, dr, tk, os⟩ := by
  obtain ⟨oc, kV, doc, pm, ct, od, an, osl, qual, cda, cc, p1, p2, q, vs, file, tf, ccl, cl, cdd, cld, ccs, csl, ho, hcd, hcda, hvs, hfile, hcc, ⟨pl, hev⟩, hbind⟩ := T.fn
  obtain ⟨nm', q', N, bs, bm, sn, sub, ab, col, dd, k0, k1, k2, k3, k5, hC, hbm⟩ := T.cls
  have hcl : clsIn K C = some { name := nm', bases := bs, mro := .ref C :: bm, ns := N, qualname := q', hasDict := true, slotNames := sn, subclasses := sub, abstract := ab, collection := col, hasDel := false } := by unfold clsIn; rw [hC] <;> rfl
  have e1 : (iS fld).names.lookup fld = some .local := by
    show (iN fld).lookup fld = _
    unfold iN
    have z : (fld == PySem.Str.ofString "self") = false := by simpa using T.f1
    simp [List.lookup, z]
  have e2 : (iS fld).names.lookup ("self" : Str) = some .local := rfl
  have e3 : (iS fld).names.lookup ("__class__" : Str) = some .free := by
    show (iN fld).lookup ("__class__" : Str) = _
    unfold iN
    have z : (("__class__" : Str) == fld) = false := by simpa using Ne.symm T.f2
    have z2 : (("__class__" : Str) == PySem.Str.ofString "self") = false := by decide
    simp [List.lookup, z, z2]
  have e4 : (iS fld).names.lookup ("super" : Str) = some .globalImplicit := by
    show (iN fld).lookup ("super" : Str) = _
    unfold iN
    have z : (("super" : Str) == fld) = false := by simpa using Ne.symm T.f3
    have z2 : (("super" : Str) == PySem.Str.ofString "self") = false := by decide
    have z3 : (("super" : Str) == PySem.Str.ofString "__class__") = false := by decide
    simp [List.lookup, z, z2, z3]
  refine ks_codeAny_call_defAt (fd := ksFn "__init__" qual (iA fld p1 p2) (iB fld msg q) (iS fld) .none kV doc pm an (.ref cda) ct cc) (body := iB fld msg q) (binds := [("self", .ref x), (fld, v)]) hroom (X _ _ ho) rfl hlim (codeRec_of X hcd) rfl (BindsTo.of_eq (hbind _ _)) ?_ ?_ (fun h₁ hn k => ?_) rfl rfl rfl
  · intro y hy
    have hy : y ∈ iN fld := hy
    unfold iN at hy
    simp only [List.mem_cons, List.not_mem_nil, or_false] at hy
    rcases hy with rfl | rfl | rfl | rfl <;> exact fun z => nomatch z
  · intro y hy
    simp only [List.mem_cons, List.not_mem_nil, or_false] at hy
    rcases hy with rfl | rfl
    · exact e2
    · exact e1
  have X₁ : K.In h₁ := X.keeps k
  have hxL : hp.objs.size ≠ x := Nat.ne_of_gt (Heap.lt_size hx)
  have hx₁ := k _ _ hx
  have mS : List.lookup ("self" : Str) (List.reverse [(("self" : Str), Value.ref x), (fld, v)]) = some (.ref x) := by
    show List.lookup ("self" : Str) [(fld, v), (("self" : Str), Value.ref x)] = _
    have z : (("self" : Str) == fld) = false := by simpa using Ne.symm T.f1
    simp [List.lookup, z]
  have mF : List.lookup fld (List.reverse [(("self" : Str), Value.ref x), (fld, v)]) = some v := by
    show List.lookup fld [(fld, v), (("self" : Str), Value.ref x)] = _
    simp [List.lookup]
  refine ks_wpAt_execs_cons (ks_wpAt_Expr_any (ks_wpAt_MethodCall (o := iSup q) (name := "__init__") (he := hev _) ?_))
  have oC := X₁ _ _ hC
  refine ks_wpAt_super_base (env := callEnv (ksFn "__init__" qual (iA fld p1 p2) (iB fld msg q) (iS fld) .none kV doc pm an (.ref cda) ct cc) hp.objs.size fI) e4 e3 (by decide) rfl (X₁ _ _ ho) rfl rfl rfl (X₁ _ _ hcda) rfl hvs hfile T.htop ?_
  refine ks_loadName_global rfl e4 (loadGlobal_builtin (hG.keeps k) T.hsup (hB.keeps k) ((hbb _ (by decide +kernel)).trans (by first | boot_by_name | rfl | kernel_rfl)) ⟨rfl, ?_⟩)
  refine wpAny_loadName_free rfl e3 rfl ⟨_, X₁ _ _ hcc, rfl⟩ ?_
  refine wpAny_loadName_local rfl e2 hn mS ?_
  refine ks_wpAny_isType_cls oC rfl ⟨rfl, ?_⟩
  refine ks_wpAny_call_super oC rfl hx₁ rfl (fun c e => (nomatch e)) (looks_mroIn X₁ T.mroS) (fun h₂ hso k₂ => ?_)
  have X₂ : K.In h₂ := X₁.keeps k₂
  have hx₂ := k₂ _ _ hx₁
  have hsup : alongIn K "__init__" (((Value.ref C :: bm).dropWhile (· != .ref C)).drop 1) = some (some (.builtin "ValueError.__init__")) := by
    have z := T.sup
    unfold ks_superIn at z
    rw [hcl] at z
    exact z
  have I₂ : InstAt h₂ x (excO C t0) C none := ⟨hx₂, rfl, rfl, trivial⟩
  refine kxs_getMethod kxs_ValueError hso (looks_opaque X₂ T.opq) (l₀ := .ref C :: bm) ?_ rfl X₂ hsup (I₂.type.andThen (looks_subIn X₂ T.subV)) (ks_ne X₂ I₂ hcl) (by decide) ?_
  · exact fun A Q E s k q => wpAny_bind ((looks_clsIn X₂ hcl) A _ E s k (wpAny_pure q))
  have hu : (h₂.push (kxs_mw "ValueError.__init__" x)).get? h₂.objs.size = some (kxs_mw "ValueError.__init__" x) := Heap.get?_push_at rfl rfl
  have k₃ : ∀ b o, h₂.get? b = some o → (h₂.push (kxs_mw "ValueError.__init__" x)).get? b = some o := fun b o e => Heap.get?_push_of_some _ e
  have X₃ := X₂.keeps k₃
  have hn₃ : (h₂.push (kxs_mw "ValueError.__init__" x)).Ns hp.objs.size _ := (hn.keeps k₂).keeps k₃
  refine kxs_callWith (i := "ValueError.__init__") (x := x) rfl (evalArgs_plain ?_)
  show wpAny _ _ (spliced ((false, eval (iArg fld msg q) _) :: backTo q.h (starEach [] _))) _ _ _
  refine Calls.spliced_cons (told_ok hn₃ mF hr T.ml rfl e1 T.f4 fun u tk' => Calls.spliced_nil ⟨hu, ?_⟩)
  show wpAny _ _ (call (.ref h₂.objs.size) [u]) _ _ _
  refine call_mw (X₃ _ _ hC) (k₃ _ _ hx₂) hu (one_size _) fun h₄ t1 k₄ sz₄ hx₄ => ?_
  show wpAt _ _ _ (execs _ _) _ _ _
  refine wpAt_of_wpAny ?_
  have X₄ : K.In h₄ := kept_but X₃ hnx k₄
  have hn₄ : h₄.Ns hp.objs.size (fun x_1 => List.lookup x_1 (List.reverse [(("self" : Str), Value.ref x), (fld, v)])) := by
    obtain ⟨oL, es, ep, hL, r⟩ := hn₃
    exact ⟨oL, es, ep, k₄ _ _ hxL hL, r⟩
  refine wpAny_execs_cons (plainObj_wpAny_Assign_Attribute ?_)
  refine ESX.ldL hn₄ mF (ESX.ldL hn₄ mS ?_ rfl e2) rfl e1 T.f4
  refine set_plain X₄ (ox := excO C t1) (od := none) ⟨hx₄, rfl, rfl, trivial⟩ T.sa ?_
  refine exc_osa X₄ hx₄ hcl (show refsVE (.ref C :: bm) = true from hbm) rfl T.noN (fun h₅ tk₅ dx k₅ dn dne hx₅ hn₅ => ?_)
  show wpAny _ _ (execs _ _) _ _ _
  have z : hp.objs.size < h₄.objs.size := hn₄.lt
  exact wpAny_execs_nil (hq h₅ tk₅ dx ⟨fun b o hb e => k₅ b o hb (k₄ b o hb (k₃ b o (k₂ b o (k b o e)))), ⟨t1, hx₅⟩, Nat.le_of_lt (Nat.lt_of_lt_of_le z dn), dne, hn₅⟩)
end
section
variable {prog : Program} {w : World} {A : Around} {R : Result → Shared → Prop} {K : Frag} {mg mb : Str → Option Value} {nm fld msg : Str} {C fI : Addr}
theorem exc_made (T : ExTxt prog K mg nm fld msg C fI) {v : Value} {hp : Heap} {g : Array GenState} {dr : Drawn} {tk : Nat} {os : OsState} (X : K.In hp) (hlim : hp.NoLimit) (hG : hp.Ns mainGlobals mg) (hB : hp.Ns builtinsNs mb) (hbb : ∀ x : Str, x ≠ "__name__" → mb x = bootBuiltins x) (hroom : A.depth + 1 < recursionLimit) (hr : Rp v)
    (hq : ∀ h' tk' e d, OwnMade hp h' e C d fld v → R (.ok (.ret (.ref e))) ⟨h', g, dr, tk', os⟩) :
    codeAny (model prog w) A (.call (.ref C) ⟨[v], []⟩) R ⟨hp, g, dr, tk, os⟩ := by
  obtain ⟨nm', q', N, bs, bm, sn, sub, ab, col, dd, k0, k1, k2, k3, k5, hC, hbm⟩ := T.cls
  have k : ∀ b o, hp.get? b = some o → ((hp.push (kdv_tup [v])).push (excO C hp.objs.size)).get? b = some o := fun b o e => Heap.get?_push_of_some _ (Heap.get?_push_of_some _ e)
  have hget : ((hp.push (kdv_tup [v])).push (excO C hp.objs.size)).get? (hp.objs.size + 1) = some (excO C hp.objs.size) := by heap_get
  have hnx : K.lookup (hp.objs.size + 1) = none := by
    cases e : K.lookup (hp.objs.size + 1) with
    | none => rfl
    | some o =>
      have z : hp.get? (hp.objs.size + 1) = some o := X _ _ e
      exact absurd (Nat.lt_of_succ_lt (Heap.lt_size z)) (Nat.lt_irrefl _)
  refine call_own F.excBase_ValueError (fun X => refsVE_contains X bm hbm) (X _ _ hC) (looks_findIn X T.iC) (fun self => bind_fn X self T.tC) (one_size v) ?_
  refine exc_init (tk := tk) T (X.keeps k) (hlim.keeps k) (hG.keeps k) (hB.keeps k) hbb hget hnx ?_ hr fun h' tk' dx ⟨k', ⟨t1, hx⟩, dn, dne, hns⟩ => ?_
  · show A.depth + 1 < recursionLimit
    exact hroom
  · have old : ∀ b o, hp.get? b = some o → h'.get? b = some o := fun b o e => k' b o (Nat.ne_of_lt (Nat.lt_succ_of_lt (Heap.lt_size e))) (k b o e)
    have z : hp.objs.size + 1 + 1 ≤ dx := by
      first
        | (simpa only [Heap.size_push] using dn)
        | exact dn
        | (have q := dn; rw [Heap.size_push, Heap.size_push] at q; exact q)
    exact ⟨rfl, hq h' tk' (hp.objs.size + 1) dx ⟨old, Nat.le_succ _, ⟨_, _, hx, rfl, rfl, rfl, rfl⟩, Nat.le_trans (Nat.le_trans (Nat.le_succ _) (Nat.le_succ _)) z, dne, hns⟩⟩
end
end XExc
end PySem
namespace XL
open PySem PySem.Spec PyProof.Rows L2
/-! ### the error, over the abstract heap -/
def RpV (v : V) : Prop := (∃ y : Str, v = .str y ∧ (reprText y).length ≤ 100000) ∨ ∃ i : Int, v = .int i ∧ i.natAbs.log2 < 1920
theorem RpV.rp {v : V} {u : Value} (h : RpV v) (r : RelV v u) : PySem.XExc.Rp u := by
  rcases h with ⟨y, rfl, hz⟩ | ⟨i, rfl, hz⟩
  · obtain ⟨t, rfl⟩ := r
    exact .inl ⟨y, t, rfl, hz⟩
  · obtain ⟨t, rfl⟩ := r
    exact .inr ⟨i, t, rfl, hz⟩
theorem relO_one {fld : Str} {v : V} {v' : Value} (r : RelV v v') (f : Str) : RelO (List.lookup f [(fld, v)]) (if f = fld then some v' else none) := by
  by_cases hw : f = fld
  · subst hw
    rw [if_pos rfl]
    have q : List.lookup f [(f, v)] = some v := by simp [List.lookup]
    rw [q]
    exact r
  · rw [if_neg hw]
    have qw : (f == fld) = false := by simpa using hw
    have q2 : List.lookup f [(fld, v)] = none := by simp [List.lookup, qw]
    rw [q2]
    trivial
section
variable {X : Cx} {C fI : Addr} {nm fld msg : Str}
def tMkX (C : Addr) (fld : Str) (ta : TA) : L2.St → Hp → XK → Prop := fun σ H Q => ta σ H fun vs H1 => ∃ v, vs = [v] ∧ RpV v ∧ ∀ d, H1 d = none → Q (.ref C) (some d) (upd H1 d (.xd [(fld, v)]))
theorem pmk_x {a : Expr} {ta : TA} {p pos : Pos} {k : Nat} (T : PySem.XExc.ExTxt X.prog X.K X.mg nm fld msg C fI) (hr : Room (k + 1) X.A) (ha : PA X [a] ta) (hg : Gl X nm := by rfl) (hd : (nm == ("__debug__" : Str)) = false := by decide)
    (he : starEach (a :: []) X.env = (false, eval a X.env) :: starEach [] X.env := by rfl) (hpl : (backTo pos (starEach [] X.env)).any (·.1) = false := by rfl) :
    PMk X (.Call (.Name nm p) [a] [] pos) (tMkX C fld ta) := by
  intro pins s σ H Q I h
  refine wpAny_Call_Name_kw (ld_glob I hg T.gC ?_ hd)
  refine PySem.W.callWith_K (h₀ := X.base) I.ok.mod.kin T.kC (thn (ha.run pos pins s σ H _ I h) fun us s1 hh => ?_) he hpl
  obtain ⟨vs, H1, I1, r1, v, ev, rp, q1⟩ := hh
  subst ev
  refine ⟨I1.kIn, ?_⟩
  cases r1 with
  | cons rv rn =>
    rename_i v' us'
    cases rn
    show wpAny _ _ (call (.ref C) [v']) _ _ _
    have hlim := I1.nolimit
    have hG := I1.mod.glob.keeps I1.bk
    obtain ⟨mb, hB, hbb⟩ := I1.mod.blt
    have hB := hB.keeps I1.bk
    obtain ⟨hp, g, dr, tk, os⟩ := s1
    refine wpAny_call (PySem.XExc.exc_made T I1.kIn hlim hG hB hbb (by have := hr.dp; omega) (rp.rp rv) fun h' tk' e d M => ?_)
    show MkP X pins σ Q (.ref e) ⟨h', g, dr, tk', os⟩
    obtain ⟨oe, fv, hoe, hc, hd, hdat, h1⟩ := M.obj
    have hns := M.ns
    obtain ⟨G', g1, g2⟩ := restrict h' fun b => decide (b ≠ e)
    have gk : ∀ b, b ≠ e → G'.get? b = h'.get? b := fun b hb => g1 b (decide_eq_true hb)
    have ge : G'.get? e = none := g2 e (by simp)
    have old : ∀ b o, hp.get? b = some o → G'.get? b = some o := fun b o q => (gk b (Nat.ne_of_lt (Nat.lt_of_lt_of_le (Heap.lt_size q) M.new))).trans (M.keep b o q)
    have ob : ObjOk X.prog X.w (upd H1 d (.xd [(fld, v)])) G' d (.xd [(fld, v)]) :=
      ⟨_, hns.at (fun o q => (gk d M.dne).trans q), fun f => relO_one rv f⟩
    have J : Inv X pins σ (upd H1 d (.xd [(fld, v)])) ⟨G', g, dr, tk', os⟩ := I1.laid (t' := tk') old M.dbig ob
    refine ⟨e, oe, fv, ⟨G', g, dr, tk', os⟩, _, .ref C, some d, rfl, J, fun b o q => ?_, ge, hoe, ⟨hc, hd⟩, hdat, h1, ?_, rfl, I1.bare, raises_own T.exC T.tyC, q1 d (I1.hok.fresh M.dbig)⟩
    · by_cases hb : b = e
      · have q' : G'.get? b = some o := q
        rw [hb, ge] at q'; cases q'
      · exact (gk b hb).symm.trans q
    · rw [upd_ne (Ne.symm M.dne)]
      exact I1.hok.fresh M.new
def tRaiseX (C : Addr) (fld : Str) (W : WX) (ta : TA) : TS := fun _ σ H => tMkX C fld ta σ H fun cls d H' => W cls d σ H'
theorem ps_raiseX {a : Expr} {ta : TA} {W : WX} {p pos pos2 : Pos} {k : Nat} (hc : X.calm = true) (T : PySem.XExc.ExTxt X.prog X.K X.mg nm fld msg C fI) (hr : Room (k + 1) X.A) (tk : Takes X W) (ha : PA X [a] ta) (hg : Gl X nm := by rfl) (hd : (nm == ("__debug__" : Str)) = false := by decide)
    (he : starEach (a :: []) X.env = (false, eval a X.env) :: starEach [] X.env := by rfl) (hpl : (backTo pos (starEach [] X.env)).any (·.1) = false := by rfl) :
    PS X (.Raise (some (.Call (.Name nm p) [a] [] pos)) none pos2) (tRaiseX C fld W ta) := ps_raise hc tk (pmk_x T hr ha hg hd he hpl)
end
/-! ### isinstance(e, c), isinstance(e, (c, ..)) of a caught error -/
section
variable {X : Cx} {a : Addr} {oe : Obj} {cls : Value} {d : Option Addr} {pn : List (Addr × Obj)}
inductive ClsRs : List V → List Value → Prop where
  | nil : ClsRs [] []
  | cons {c : Addr} {cs : List V} {us : List Value} (h : ClsRs cs us) : ClsRs (.ref c :: cs) (.ref c :: us)
theorem ClsRs.eq : ∀ {cs : List V} {us : List Value}, ClsRs cs us → ∀ {ws : List Value}, Vals cs ws → ws = us
  | _, _, .nil, _, .nil => rfl
  | _, _, .cons h, _, .cons r rs => by
    cases r
    rw [h.eq rs]
def rIsX (K : PySem.W.Frag) (cls : Value) (d : Option Addr) (a : Addr) : List V → Hp → VK → Prop := fun xs H Q => ∃ (D dd : Addr) (fs : List (Str × V)) (b : Bool), cls = .ref D ∧ d = some dd ∧ H dd = some (.xd fs) ∧ ExcC K D ∧
  ((∃ (c : V) (cv : Value), xs = [.ref a, c] ∧ (∀ u, RelV c u → u = cv) ∧ PySem.W.kitOne K (.ref D) cv = some b) ∨ ∃ (p : Addr) (cs : List V) (us : List Value), xs = [.ref a, .ref p] ∧ H p = some (.tup cs) ∧ ClsRs cs us ∧ PySem.W.kitAny K (.ref D) us = some b) ∧ Q (.bl b) H
theorem call_isX (hz : Zc cls d oe) (hf : ∃ vs, oe.data = .fields vs) : CallR (X.suite a ((a, oe) :: pn)) (.builtin "isinstance") (rIsX X.K cls d a) := by
  intro pins s σ H xs us Q I r h
  obtain ⟨D, dd, fs, b, rfl, rfl, hd, C, hcs, q⟩ := h
  obtain ⟨hget, _⟩ := I.pin (a, oe) (List.mem_append.mpr (.inl List.mem_cons_self))
  obtain ⟨vs, hv⟩ := hf
  have hx : ObjOk X.prog X.w H s.heap dd (.xd fs) := I.hok dd _ hd
  obtain ⟨mA, hns, _⟩ := hx
  obtain ⟨od, ho, _⟩ := lookIn_ns hns
  have J : PySem.W.InstAt s.heap a oe D (some od) := ⟨hget, hz.1, by unfold PySem.W.notCls; rw [hv] <;> rfl, by rw [hz.2]; exact ho⟩
  have cl : (PySem.W.clsIn X.K D).isSome = true := by
    obtain ⟨cd, hc, _⟩ := PySem.W.any_some C.hd
    rw [hc]
    rfl
  have Z := PySem.W.kitx_exc (x := a) (ox := oe) (od := some od) cl C.hg C.hk C.hs C.ha C.hn C.ht C.hm
  rcases hcs with ⟨c, cv, rfl, hcv, e⟩ | ⟨p, cs, us2, rfl, hp, hc, e⟩
  · cases r with
    | cons rx rr =>
      cases rr with
      | cons rt rr =>
        cases rr
        cases rx
        have ec := hcv _ rt
        subst ec
        exact PySem.W.kia_one Z I.kIn J e (fun z => nomatch z) fun tk => ⟨.bl b, H, I.kept (t' := tk) fun _ _ z => z, rfl, q⟩
  · cases r with
    | cons rx rr =>
      cases rr with
      | cons rt rr =>
        cases rr
        cases rx
        cases rt
        obtain ⟨_, its, rv, o, h1, h2, n, h3⟩ := (show ObjOk X.prog X.w H s.heap p (.tup cs) from I.hok p _ hp)
        have ei := hc.eq rv
        subst ei
        obtain ⟨oc, od', oda, osl⟩ := o
        dsimp only at h2 h3
        subst h2 h3
        exact PySem.W.kia_tup Z I.kIn J h1 e (fun z => nomatch z) fun tk => ⟨.bl b, H, I.kept (t' := tk) fun _ _ z => z, rfl, q⟩
end
/-! ### own [ ] and [ ] = within a try -/
section
variable {X : Cx} {CX : CXT} {C f : Addr} {fd : FuncData} {ps : List Str} {sp : Sp} {E : L2.St → XK} {n : Nat} {o i e : Expr} {to ti te : TE} {pos pos' : Pos}
def tIxOS (C : Addr) (sp : Sp) (E : L2.St → XK) (to ti : TE) : TE := fun σ H Q => to σ H fun x H1 => ti σ H1 fun y H2 => ∃ a dx fs, x = .ref a ∧ H2 a = some (.ins C dx fs) ∧ sp [.ref a, y] H2 Q (E σ)
theorem pe_ixOS (ho : PE X o to) (hi : PE X i ti) (F : FnOk X.prog X.w X.K X.mg X.base CX n f fd ps sp) (hs : PySem.W.findIn X.K (.ref C) "__getitem__" = some (some (.ref f))) (hf : PySem.W.fnIn X.K f = true) (hfn : PySem.W.isFn X.K (.ref f) = true)
    (hb : Binds X.K fd ps []) (hx : ∀ σ, PassesAt CX X σ (E σ)) (hr : Room (n + 1) X.A) (hsl : ∀ x v, subscripted i true (.ref x) v = runValue (.builtin "lifetime.subscript" ⟨[.ref x, v], []⟩) := by intro _ _; with_unfolding_all rfl) :
    PE X (.Subscript o i pos) (tIxOS C sp E to ti) := by
  refine ⟨fun pins s σ H Q I h => ?_⟩
  refine Subscript_ (thn (ho.run pins s σ H _ I h) fun v s1 ⟨x, H1, I1, r1, q1⟩ => thn (hi.run pins s1 σ H1 _ I1 q1) fun u s2 ⟨y, H2, I2, r2, q2⟩ => ?_)
  obtain ⟨a, dx, fs, rfl, ha, hsp⟩ := q2
  cases r1
  obtain ⟨mA, J, _⟩ := ins_get I2.hok ha
  obtain ⟨od, J, _⟩ := J.look
  obtain ⟨m, hF⟩ := I2.fr
  refine PySem.W.sub_K hF I2.ok.mod.kin J hs hf hfn ?_ (hsl _ _)
  have hl : ([Value.ref a, u] ++ []).length = ps.length := F.len _ _ _ _ hsp
  refine wpAny_call (codeAny_mono (F.run X.A.in1 X.stack s2 H2 ⟨[.ref a, u], []⟩ [.ref a, u] [.ref a, y] Q (E σ) hr.in1 I2.env0.in1 (hb s2 [.ref a, u] I2.kIn hl) (.cons rfl (.cons r2 .nil)) hsp) fun r s' hq => ?_)
  cases r with
  | error e => exact hx σ pins H2 s2 e s' I2 hq
  | ok fl =>
    cases fl with
    | ret u => exact I2.after hq
    | next => exact False.elim hq
    | brk => exact False.elim hq
    | cont => exact False.elim hq
def gSubS (C : Addr) (sp : Sp) (E : L2.St → XK) (to ti : TE) : TG := fun v σ H Q => to σ H fun x H1 => ti σ H1 fun y H2 => ∃ a dx fs, x = .ref a ∧ H2 a = some (.ins C dx fs) ∧ sp [.ref a, y, v] H2 (fun _ H' => Q σ H') (E σ)
theorem pg_subOS (ho : PE X o to) (hi : PE X i ti) (F : FnOk X.prog X.w X.K X.mg X.base CX n f fd ps sp) (hq : PySem.W.noSeq X.K C = true) (hs : PySem.W.findIn X.K (.ref C) "__setitem__" = some (some (.ref f))) (hfn : PySem.W.isFn X.K (.ref f) = true)
    (hb : Binds X.K fd ps []) (hx : ∀ σ, PassesAt CX X σ (E σ)) (hr : Room n X.A)
    (ha : ∀ v, assign (.Subscript o i pos) X.env v = (do
      let ov ← holding [v] (eval o X.env)
      let iv ← holding [v, ov] (eval i X.env)
      standAt pos
      holding [v, ov, iv] (setItem ov iv v)
      release [v, ov, iv] []) := by intro _; rfl) : PG X (.Subscript o i pos) (gSubS C sp E to ti) := by
  refine ⟨fun pins s σ H v u Q I r h => ?_⟩
  rw [ha]
  refine wpAny_bind (wpAny_holding (thn (ho.run pins s σ H _ I h) fun ov s1 ⟨x, H1, I1, r1, q1⟩ => ?_))
  refine wpAny_bind (wpAny_holding (thn (hi.run pins s1 σ H1 _ I1 q1) fun iv s2 ⟨y, H2, I2, r2, q2⟩ => ?_))
  obtain ⟨a, dx, fs, rfl, ha2, hsp⟩ := q2
  cases r1
  obtain ⟨mA, J, _⟩ := ins_get I2.hok ha2
  obtain ⟨od, J, _⟩ := J.look
  obtain ⟨m, hF⟩ := I2.fr
  refine wpAny_bind (wpAny_standAt (wpAny_bind (wpAny_holding (PySem.W.ksp_setItem hF I2.ok.mod.kin J hq hs hfn ?_))))
  refine wpAny_mono (run_fnS (us := [.ref a, iv, u]) (vs := [.ref a, y, v]) (E := E) F hr hb (hx σ) I2 (.cons rfl (.cons r2 (.cons r .nil))) hsp) (fun r s' q => ?_) fun _ _ e => e
  obtain ⟨z, H', I', rz, q⟩ := q
  exact wpAny_release ⟨σ, H', I', q⟩
end
end XL
set_option Elab.async false
set_option linter.all false
set_option maxRecDepth 100000
set_option maxHeartbeats 4000000
/-! XOwnIt: list(o), o an object whose own __iter__ hands on iter(t), t a tuple. -/
namespace XL
open PySem PySem.Spec PyProof.Rows L2
/-- an iterator over the tuple at t, the next place is i -/
def ItT (t it : Addr) (i : Nat) : HO := .ext fun h => IsTupIter h it t i
/-- .. that has ended -/
def ItTE (it : Addr) : HO := .ext fun h => ∃ o, h.get? it = some o
theorem itT_ok {P : Program} {w : World} {H : Hp} {h : Heap} {t it : Addr} {i : Nat} (e : IsTupIter h it t i) : ObjOk P w H h it (ItT t it i) := by
  obtain ⟨o, h1, h2⟩ := e
  exact ⟨⟨o, h1, h2⟩, ⟨_, h1⟩, fun g1 g2 ⟨o', q1, q2⟩ k => ⟨o', k _ q1, q2⟩⟩
theorem itTE_ok {P : Program} {w : World} {H : Hp} {h : Heap} {it : Addr} {o : Obj} (e : h.get? it = some o) : ObjOk P w H h it (ItTE it) := ⟨⟨o, e⟩, ⟨_, e⟩, fun g1 g2 ⟨o', q1⟩ k => ⟨o', k _ q1⟩⟩
section
variable {X : Cx} {pins : List (Addr × Obj)} {σ : L2.St} {H : Hp} {s : Shared}
theorem itT_get {t it : Addr} {i : Nat} (I : Inv X pins σ H s) (e : H it = some (ItT t it i)) : IsTupIter s.heap it t i := (I.hok it _ e).1
theorem call_iter_tup {M : Program} {w : World} {A : Around} {E : Value → Shared → Prop} {s : Shared} {t : Addr} {items : Array Value} {Q : Value → Shared → Prop} (ht : IsTup s.heap t items)
    (h : Q (.ref s.heap.objs.size) { s with heap := s.heap.push { cls := .type "tuple_iterator", data := .fields #[.ref t, .int 0 0] } }) : wpAny (model M w) A (call (.builtin "iter") [.ref t]) Q E s := by
  refine Calls.call_function_entry (by decide +kernel) (by decide +kernel) PySem.W.kdk_entry_iter (PySem.W.kdk_args_iter _) ?_
  unfold Builtin.«iter»
  refine wpAny_bind (m := someArgs "iter" 1 2 _) (wpAny_of_eq (a := [Value.ref t]) (by first | rfl | kernel_rfl!) ?_)
  show wpAny _ _ (pyIter (.ref t) >>= _) _ _ _
  refine wpAny_bind (iter_tuple ht ?_)
  exact wpAny_pure ⟨_, rfl, h⟩
/-- iter(t) -/
def rIterT (K : PySem.W.Frag) : List V → Hp → VK → Prop := fun xs H Q => ∃ (t : Addr) (zs : List V), xs = [.ref t] ∧ SqT K H t zs ∧ ∀ it, H it = none → Q (.ref it) (upd H it (ItT t it 0))
theorem call_iterT : CallR X (.builtin "iter") (rIterT X.K) := by
  intro pins s σ H xs us Q I r h
  obtain ⟨t, zs, rfl, hq, q⟩ := h
  obtain rfl := Vals.ref1 r
  obtain ⟨its, rv, pl, hz⟩ := I.tuple hq
  refine call_iter_tup pl ?_
  exact ⟨.ref s.heap.objs.size, _, I.laid (t' := s.toks) (fun b u e => Heap.get?_push_of_some _ e) (Nat.le_refl _) (itT_ok ⟨_, Heap.get?_push_size _ rfl, rfl, rfl⟩), rfl, q _ (I.hok.fresh (Nat.le_refl _))⟩
theorem call_iterTK (K : PySem.W.Frag) (h : X.K = K := by rfl) : CallR X (.builtin "iter") (rIterT K) := h ▸ call_iterT
theorem sqT_upd {K : PySem.W.Frag} {H : Hp} {t x : Addr} {zs : List V} {o : HO} (h : SqT K H t zs) (hx : ∀ o' xs, H x ≠ some (.tup xs) ∧ H x ≠ some (.frz o' (.tup xs))) : SqT K (upd H x o) t zs := by
  rcases h with (h | ⟨ob, h⟩) | h
  · have ne : t ≠ x := fun z => (hx default zs).1 (by rw [← z]; exact h)
    exact .inl (.inl (by rw [upd_ne ne]; exact h))
  · have ne : t ≠ x := fun z => (hx ob zs).2 (by rw [← z]; exact h)
    exact .inl (.inr ⟨ob, by rw [upd_ne ne]; exact h⟩)
  · exact .inr h
/-- the end of a tuple: the iterator itself stays there -/
theorem next_tup_end {P : Program} {w : World} {A : Around} {E : Value → Shared → Prop} {s : Shared} {it t : Addr} {i : Nat} {items : Array Value} {Q : Option Value → Shared → Prop} (hh : A.handled = none)
    (hit : IsTupIter s.heap it t i) (ht : IsTup s.heap t items) (hx : items[i]? = none)
    (hQ : ∀ h', Heap.ExtBut it s.heap h' → (∃ o, h'.get? it = some o) → Q none { s with heap := h' }) : wpAny (model P w) A (pyNext (.ref it)) Q E s := by
  obtain ⟨o, ho, hc, hd⟩ := id hit
  obtain ⟨ol, hol, _, nl, hdl⟩ := ht
  unfold pyNext
  refine wpAny_bind (wpAny_attempt (wpAny_callSpecial?_slot (name := Str.ofString "__next__") hit.typeIs slot_tupleiter_next (wpAny_call_entry slot_tupleiter_next hit.typeIs entry_tupleiter_next ?_ (args_tupleiter_next _))))
  show wpAny _ _ (field (.ref it) 0 >>= _) _ _ s
  refine wpAny_bind (wpAny_field ho hd (x := .ref t) rfl (PySem.W.KFB.if_not rfl ?_))
  show wpAny _ _ (field (.ref it) 1 >>= _) _ _ s
  refine wpAny_bind (wpAny_field ho hd (x := .int i 0) rfl ?_)
  show wpAny _ _ (seqItems? (.ref t) >>= _) _ _ s
  refine wpAny_bind (wpAny_seqItems hol hdl ?_)
  simp only [Int.toNat_natCast, hx]
  refine wpAny_bind (wpAny_rule (wpAny_bind (wpAny_setField ho hd (by simp) ?_)))
  show wpAny _ _ (newExc (.type "StopIteration") [] >>= _) _ _ _
  refine wpAny_bind ?_
  simp only [newExc, newTuple]
  refine wpAny_bind (wpAny_newObj_type ?_ (by size_fits))
  refine wpAny_bind (m := firstArgMember _ _) (wpAny_of_eq (a := Value.none) (by first | rfl | (simp only [firstArgMember]; rfl)) ?_)
  refine wpAny_newObj_type ?_ (by size_fits)
  simp only [raiseNew]
  refine wpAny_bind (wpAny_handled ?_)
  first | rw [show A.in1.handled = none from hh] | rw [hh]
  refine wpAny_bind (wpAny_pure (wpAny_throw ?_))
  refine wpAny_bind (wpAny_isInstance (T := "StopIteration") (b := true) ⟨_, Heap.get?_push_size _ rfl, rfl⟩ isSubtype_stop ?_)
  exact wpAny_pure (hQ _ (((Heap.SameBut.update ..).extBut.push _).push _) ⟨_, Heap.get?_push_of_some _ (Heap.get?_push_of_some _ (Heap.get?_update_self _ ho (Obj.isFreed_of_fields (Obj.data_mapFields hd _))))⟩)
/-- the loop that fills the list at q -/
theorem loop_tup {A1 : Around} {Rs : Result → Shared → Prop} {q it t : Addr} {zs : List V} (hd : A1.in1.handled = none) (hne : q ≠ it) :
    ∀ (k i : Nat) (H : Hp) (s : Shared), zs.length - i = k → i ≤ zs.length → Inv X pins σ H s → H it = some (ItT t it i) → SqT X.K H t zs → H q = some (.lst (zs.take i)) →
      (∀ s', Inv X pins σ (upd (upd H it (ItTE it)) q (.lst zs)) s' → Rs (.ok (.ret .none)) s') → codeAny (model X.prog X.w) A1 (.builtin "list.extend.loop" ⟨[.ref q, .ref it, .none], []⟩) Rs s := by
  intro k
  induction k with
  | zero =>
    intro i H s hk hi I hit ht hq hR
    obtain ⟨its, rv, pl, hz⟩ := I.tuple ht
    have hin : zs.length = its.length := rv.length
    have mu : Mut (H it) := by rw [hit]; exact True.intro
    refine codeAny_builtin PySem.F.entry_extend_loop ?_
    rw [Around.under_plainId PySem.F.plain_extend_loop _]
    show wpAny _ A1.in1 (pyNext (.ref it) >>= _) _ _ s
    have ei : i = zs.length := by omega
    refine wpAny_bind (next_tup_end hd (itT_get I hit) pl (by rw [List.getElem?_toArray]; exact List.getElem?_eq_none (by omega)) fun h' eb ⟨o, ho⟩ => wpAny_pure ?_)
    have I2 : Inv X pins σ (upd H it (ItTE it)) { s with heap := h' } := I.write (x := it) (e := it) (t' := s.toks) mu (.inl rfl) (fun b o nb z => eb b o nb z) ⟨_, ho⟩ (itTE_ok ho)
    refine hR _ ?_
    have e : upd (upd H it (ItTE it)) q (.lst zs) = upd H it (ItTE it) := by
      funext b
      by_cases hb : b = q
      · rw [hb, upd_same, upd_ne hne, hq, ei, List.take_length]
      · rw [upd_ne hb]
    rw [e]
    exact I2
  | succ k ih =>
    intro i H s hk hi I hit ht hq hR
    obtain ⟨its, rv, pl, hz⟩ := I.tuple ht
    have hin : zs.length = its.length := rv.length
    have mu : Mut (H it) := by rw [hit]; exact True.intro
    have hlt : i < zs.length := by omega
    have hzi := List.getElem?_eq_getElem hlt
    obtain ⟨u, hu, ru⟩ := rv.get hzi
    refine codeAny_builtin PySem.F.entry_extend_loop ?_
    rw [Around.under_plainId PySem.F.plain_extend_loop _]
    show wpAny _ A1.in1 (pyNext (.ref it) >>= _) _ _ s
    refine wpAny_bind (next_tuple_item (itT_get I hit) pl (by rw [List.getElem?_toArray]; exact hu) fun h' hit' sb => ?_)
    obtain ⟨o, ho, _⟩ := id hit'
    have I2 : Inv X pins σ (upd H it (ItT t it (i + 1))) { s with heap := h' } := I.write (x := it) (e := it) (t' := s.toks) mu (.inl rfl) (fun b o nb z => (sb.2 b nb).trans z) ⟨_, ho⟩ (itT_ok hit')
    have hq2 : upd H it (ItT t it (i + 1)) q = some (.lst (zs.take i)) := by rw [upd_ne hne]; exact hq
    show wpAny _ A1.in1 (updateSeq q (·.push u) >>= _) _ _ _
    obtain ⟨z, its2, c, r2, hl, e⟩ := I2.lstM hq2
    have l2 : its2.length ≤ 16777215 := by
      rw [← hl, List.length_take]
      have := hz
      rw [sizeLine_eq] at this
      omega
    refine wpAny_bind (wpAny_updateSeq e rfl (wpAny_pure ⟨plainId_quiet PySem.F.plain_extend_loop _, ?_⟩) (by rw [List.size_toArray, sizeLine_eq]; omega) (by show (its2.toArray.push u).size ≤ sizeLine + 1; rw [Array.size_push, List.size_toArray, sizeLine_eq]; omega))
    have I3 := I2.lset (f := (·.push u)) (its' := its2 ++ [u]) (ys := zs.take i ++ [zs[i]]) (t' := s.toks) hq2 e (by simp) (r2.append (.cons ru .nil)) (by rw [List.length_append, List.length_singleton, List.length_take, sizeLine_eq]; rw [sizeLine_eq] at hz; omega)
    refine ih (i + 1) _ _ (by omega) (by omega) I3 ?_ ?_ ?_ fun s' I4 => hR s' ?_
    · rw [upd_ne (Ne.symm hne), upd_same]
    · exact sqT_upd (sqT_upd ht fun o' xs => ⟨by rw [hit]; exact fun z => (nomatch z), by rw [hit]; exact fun z => (nomatch z)⟩) fun o' xs => ⟨by rw [hq2]; exact fun z => (nomatch z), by rw [hq2]; exact fun z => (nomatch z)⟩
    · rw [upd_same, take_snoc hzi]
    · have e4 : upd (upd (upd (upd H it (ItT t it (i + 1))) q (.lst (zs.take i ++ [zs[i]]))) it (ItTE it)) q (.lst zs) = upd (upd H it (ItTE it)) q (.lst zs) := by
        funext b
        by_cases hb : b = q
        · rw [hb, upd_same, upd_same]
        · rw [upd_ne hb, upd_ne hb]
          by_cases hb2 : b = it
          · rw [hb2, upd_same, upd_same]
          · rw [upd_ne hb2, upd_ne hb2, upd_ne hb, upd_ne hb2]
      rw [← e4]
      exact I4
/-- list(o) -/
def rListIt (K : PySem.W.Frag) (C : Addr) (sp : Sp) (E : XK) : List V → Hp → VK → Prop := fun xs H Q => ∃ a dx fs, xs = [.ref a] ∧ H a = some (.ins C dx fs) ∧
  ∀ q, H q = none → sp [.ref a] (upd H q (.lst [])) (fun v H1 => ∃ (it t : Addr) (zs : List V), v = .ref it ∧ H1 it = some (ItT t it 0) ∧ SqT K H1 t zs ∧ H1 q = some (.lst []) ∧ (∃ dx' fs', H1 a = some (.ins C dx' fs')) ∧ Q (.ref q) (upd (upd H1 it (ItTE it)) q (.lst zs))) E
theorem hint_own {M : Model} {A : Around} {E : Value → Shared → Prop} {s : Shared} {Q : Bool → Shared → Prop} {K : PySem.W.Frag} {C a : Addr} {ox : Obj} {od : Option Obj} (h1 : PySem.W.findIn K (.ref C) "__len__" = some none) (h2 : PySem.W.findIn K (.ref C) "__length_hint__" = some none)
    (hK : K.In s.heap) (J : PySem.W.InstAt s.heap a ox C od) (h : Q true s) : wpAny M A (Builtin.List.listLengthHint (.ref a)) Q E s := by
  unfold Builtin.List.listLengthHint
  refine wpAny_bind (wpAny_bind (J.type.here ((PySem.W.looks_findIn hK h1).here (PySem.W.KFB.if_not rfl (PySem.W.KFB.if_not rfl ?_)))))
  exact wpAny_bind (wpAny_bind (J.type.here ((PySem.W.looks_findIn hK h2).here (wpAny_pure h))))
theorem call_listIt {C f : Addr} {fd : FuncData} {ps : List Str} {sp : Sp} {E : XK} {n : Nat} {CX : CXT} (hs : PySem.W.findIn X.K (.ref C) "__iter__" = some (some (.ref f))) (hfn : PySem.W.isFn X.K (.ref f) = true) (n1 : PySem.W.findIn X.K (.ref C) "__len__" = some none) (n2 : PySem.W.findIn X.K (.ref C) "__length_hint__" = some none)
    (F : FnOk X.prog X.w X.K X.mg X.base CX n f fd ps sp) (hb : Binds X.K fd ps []) (hx : Passes CX X E) (hr : Room (n + 2) X.A) : CallR X (.type "list") (rListIt X.K C sp E) := by
  intro pins s σ H xs us Q I rv h
  obtain ⟨a, dx, fs, rfl, ha, hq⟩ := h
  obtain ⟨u, rfl, ru⟩ := rv.one
  cases ru
  have sb : Sub X n X.A.in1.in1 := (Sub.in1 (Sub.in1 (⟨hr, rfl⟩ : Sub X (n + 2) X.A)))
  refine callType_codes (Q₁ := fun obj s₁ => obj = .ref s.heap.objs.size ∧ s₁ = { s with heap := s.heap.push { cls := .type "list", data := .seq #[] } }) PySem.F.called_list (PySem.F.typeCall_list_1 _) PySem.F.entry_list_init
    (code_list_new _ ⟨rfl, rfl⟩) fun obj s₁ h₁ => ?_
  obtain ⟨rfl, rfl⟩ := h₁
  have hS : (s.heap.push { cls := .type "list", data := .seq #[] }).get? s.heap.objs.size = some { cls := .type "list", data := .seq #[] } := Heap.get?_push_size _ rfl
  refine ⟨⟨_, hS, rfl⟩, PySem.F.args_list_init_2 _ _, ?_⟩
  have fr : H s.heap.objs.size = none := I.hok.fresh (Nat.le_refl _)
  have hsp := hq _ fr
  have I1 : Inv X pins σ (upd H s.heap.objs.size (.lst [])) { s with heap := s.heap.push { cls := .type "list", data := .seq #[] } } := I.lnew (its := []) (t' := s.toks) .nil (Nat.zero_le _)
  show wpAny _ _ (do let old ← Builtin.List.listItems (.ref s.heap.objs.size); Builtin.List.listUpdate (.ref s.heap.objs.size) (fun _ => #[]); letGo old.toList.reverse; Builtin.List.listExtendWith (.ref s.heap.objs.size) (.ref a) .none) _ _ _
  refine wpAny_bind ?_
  unfold Builtin.List.listItems
  refine wpAny_bind (wpAny_seqItems hS rfl (wpAny_pure ?_))
  show wpAny _ _ (updateSeq s.heap.objs.size (fun _ => #[]) >>= fun _ => letGo (#[] : Array Value).toList.reverse >>= fun _ => Builtin.List.listExtendWith (.ref s.heap.objs.size) (.ref a) .none) _ _ _
  refine wpAny_bind (wpAny_updateSeq hS rfl ?_)
  have I2 := I1.lset (f := fun _ => #[]) (its := []) (its' := []) (ys := []) (t' := s.toks) upd_same hS rfl .nil (Nat.zero_le _)
  rw [upd_upd] at I2
  refine wpAny_bind (wpAny_letGo ?_)
  have ha2 : upd H s.heap.objs.size (.lst []) a = some (.ins C dx fs) := by rw [upd_ne (ne_of_none ha fr)]; exact ha
  have hne : s.heap.objs.size ≠ a := Ne.symm (ne_of_none ha fr)
  generalize hH2 : upd H s.heap.objs.size (.lst []) = H2 at *
  generalize s.heap.objs.size = q at *
  obtain ⟨mA, J, _⟩ := ins_get I2.hok ha2
  obtain ⟨od, J, _⟩ := J.look
  obtain ⟨m0, hF⟩ := I2.fr
  unfold Builtin.List.listExtendWith
  refine wpAny_bind (J.type.here ?_)
  have h1 : Builtin.List.listSameRef (.ref q) (.ref a) = false := by simp [Builtin.List.listSameRef, hne]
  have h2 : (Value.ref C == Value.type "list") = false := rfl
  have h3 : (Value.ref C == Value.type "tuple") = false := rfl
  simp only [h1, h2, h3, Bool.or_false, Bool.false_eq_true, if_false]
  refine wpAny_bind (PySem.W.owit_iter hF I2.ok.mod.kin J hs hfn ?_)
  have e0 : ∀ {s : Shared} {H : Hp}, Inv X pins σ H s → Env0 X.prog X.w X.K X.mg X.base X.A.in1.in1 X.stack s H := fun {s H} I => by
    have e := I.env0
    exact ⟨by rw [sb.fr]; exact e.frames, e.mod, e.bs, e.bsz, e.funs, e.frf, e.hok, e.bare⟩
  have hl := F.len _ _ _ _ hsp
  have r2 : Vals [V.ref a] [Value.ref a] := .cons rfl .nil
  refine wpAny_call (codeAny_mono (F.run X.A.in1.in1 X.stack _ _ ⟨[.ref a], []⟩ [.ref a] [.ref a] _ E sb.room (e0 I2) (by
    have := hb _ [.ref a] I2.kIn (by simpa using hl)
    simpa using this) r2 hsp) fun r s' hq' => ?_)
  cases r with
  | error e => exact hx pins σ _ _ e s' I2 hq'
  | ok fl =>
    cases fl with
    | next => exact False.elim hq'
    | brk => exact False.elim hq'
    | cont => exact False.elim hq'
    | ret u =>
      obtain ⟨v, H', I', rv, it, t, zs, ev, hit, ht, hqq, ⟨dx', fs', ha'⟩, hQ⟩ := I2.after hq'
      subst ev
      cases rv
      have hT : s'.TypeIs (.ref it) "tuple_iterator" := (itT_get I' hit).typeIs
      have hqi : q ≠ it := fun z => by
        rw [z, hit] at hqq
        exact (nomatch hqq)
      show wpAny _ _ (specialOf (.ref it) "__next__") _ _ _
      refine wpAny_specialOf hT slot_tupleiter_next.lookup ?_
      obtain ⟨mA', J', _⟩ := ins_get I'.hok ha'
      obtain ⟨od', J', _⟩ := J'.look
      refine wpAny_bind (wpAny_holding (hint_own n1 n2 I'.kIn J' ?_))
      have go : ∀ s'', Inv X pins σ H' s'' → codeAny (model X.prog X.w) X.A.in1 (.builtin "list.extend.loop" ⟨[.ref q, .ref it, .none], []⟩) (wants (fun r s₂ => r = .none ∧ EP X pins σ Q (.ref q) s₂) X.xe) s'' := fun s'' I'' =>
        loop_tup (t := t) (zs := zs) sb.room.hd hqi zs.length 0 H' s'' (by simp) (Nat.zero_le _) I'' hit ht (by rw [hqq]; rfl) fun s3 I3 => ⟨rfl, .ref q, _, I3, rfl, hQ⟩
      obtain ⟨z, its, k, r3, hl3, e3⟩ := I'.lstM hqq
      cases r3
      refine wpAny_ite_split (fun _ => ?_) (fun _ => wpAny_pure ⟨plainId_quiet PySem.F.plain_extend_loop _, go s' I'⟩)
      refine wpAny_bind (wpAny_rule ?_)
      refine wpAny_bind ?_
      show wpAny _ _ (updateSeq q (·.push .none) >>= fun _ => updateSeq q (·.pop)) _ _ _
      refine wpAny_bind (wpAny_updateSeq e3 rfl ?_)
      have I3 := I'.lset (f := (·.push Value.none)) (its' := [Value.none]) (ys := [.non]) (t' := s'.toks) hqq e3 (by simp) (.cons rfl .nil) (by rw [List.length_singleton, sizeLine_eq]; decide)
      obtain ⟨z4, its4, k4, r4, hl4, e4⟩ := I3.lstM upd_same
      obtain ⟨u4, rfl, ru4⟩ := r4.one
      refine wpAny_updateSeq e4 rfl ?_ (by show 1 ≤ sizeLine; rw [sizeLine_eq]; decide) (by show 0 ≤ sizeLine + 1; exact Nat.zero_le _)
      have I4 := I3.lset (f := (·.pop)) (its := [u4]) (its' := []) (ys := []) (t' := s'.toks) upd_same e4 (by rfl) .nil (Nat.zero_le _)
      rw [upd_upd] at I4
      have hH : upd H' q (.lst []) = H' := by
        funext b
        by_cases hb : b = q
        · rw [hb, upd_same, hqq]
        · rw [upd_ne hb]
      rw [hH] at I4
      exact wpAny_pure ⟨plainId_quiet PySem.F.plain_extend_loop _, go _ I4⟩
end
end XL
set_option Elab.async false
set_option linter.all false
set_option maxRecDepth 100000
set_option maxHeartbeats 4000000
/-! XOr: two rules for one piece of text; what classes say of an own error. -/
namespace XL
open PySem PySem.Spec PyProof.Rows L2
section
variable {X : Cx}
theorem pe_or {e : Expr} {t u : TE} (h : PE X e t) (k : PE X e u) : PE X e (fun σ H Q => t σ H Q ∨ u σ H Q) := ⟨fun pins s σ H Q I q => q.elim (h.run pins s σ H Q I) (k.run pins s σ H Q I)⟩
theorem pg_or {e : Expr} {t u : TG} (h : PG X e t) (k : PG X e u) : PG X e (fun v σ H Q => t v σ H Q ∨ u v σ H Q) := ⟨fun pins s σ H v w Q I r q => q.elim (h.run pins s σ H v w Q I r) (k.run pins s σ H v w Q I r)⟩
theorem cr_or {f : Value} {t u : List V → Hp → VK → Prop} (h : CallR X f t) (k : CallR X f u) : CallR X f (fun xs H Q => t xs H Q ∨ u xs H Q) := fun pins s σ H xs us Q I r q => q.elim (h pins s σ H xs us Q I r) (k pins s σ H xs us Q I r)
end
section
variable {P : Program} {w : World} {K : PySem.W.Frag} {mg : Str → Option Value} {base : Heap} {CX : CXT} {k : Nat} {f : Addr} {fd : FuncData} {ps : List Str} {sp sq : Sp}
theorem fn_or (h : FnOk P w K mg base CX k f fd ps sp) (h2 : FnOk P w K mg base CX k f fd ps sq) : FnOk P w K mg base CX k f fd ps (fun vs H Q E => sp vs H Q E ∨ sq vs H Q E) :=
  ⟨fun vs H Q E q => q.elim (h.len vs H Q E) (h2.len vs H Q E), fun A outer s H args us vs Q E hr he hb hv q => q.elim (h.run A outer s H args us vs Q E hr he hb hv) (h2.run A outer s H args us vs Q E hr he hb hv)⟩
end
theorem kit_of {K : PySem.W.Frag} {D C : Addr} {b : Bool} (hne : (Value.ref D == Value.ref C) = false) (h2 : PySem.W.isClsIn K C = true) (h3 : PySem.W.typeIn K (.ref C) = some (.type "type")) (h4 : PySem.W.subIn K (.ref D) (.ref C) = some b) : PySem.W.kitOne K (.ref D) (.ref C) = some b := by
  have e2 : ((PySem.W.clsIn K C).isSome && PySem.W.typeIn K (.ref C) == some (.type "type")) = true := by
    have h2' : (PySem.W.clsIn K C).isSome = true := h2
    rw [h2', h3]
    rfl
  show (if (Value.ref D == Value.ref C) = true then some true else (if ((PySem.W.clsIn K C).isSome && PySem.W.typeIn K (.ref C) == some (.type "type")) = true then PySem.W.subIn K (.ref D) (.ref C) else none)) = some b
  rw [if_neg (by rw [hne]; decide), if_pos e2]
  exact h4
theorem exm_of {K : PySem.W.Frag} {S : Addr} {cls : Value} {b : Bool} (h1 : PySem.W.subIn K (.ref S) (.type "BaseException") = some true) (h2 : PySem.W.isClsIn K S = true) (h3 : PySem.W.typeIn K (.ref S) = some (.type "type")) (h4 : PySem.W.subIn K cls (.ref S) = some b) : PySem.W.exmOne K cls (.ref S) = some b := by
  have e1 : (PySem.W.subIn K (.ref S) (.type "BaseException") == some true) = true := by rw [h1] <;> rfl
  have e2 : ((PySem.W.clsIn K S).isSome && PySem.W.typeIn K (.ref S) == some (.type "type")) = true := by
    have h2' : (PySem.W.clsIn K S).isSome = true := h2
    rw [h2', h3] <;> rfl
  show (if (PySem.W.subIn K (.ref S) (.type "BaseException") == some true) = true then (if ((PySem.W.clsIn K S).isSome && PySem.W.typeIn K (.ref S) == some (.type "type")) = true then PySem.W.subIn K cls (.ref S) else none) else none) = some b
  rw [if_pos e1, if_pos e2]
  exact h4
end XL
set_option Elab.async false
set_option linter.all false
set_option maxRecDepth 100000
set_option maxHeartbeats 4000000
/-! XTxt: texts of small letters; a name that is not used. -/
namespace XL
open PySem PySem.Spec PyProof.Rows L2
def LS : Str := "abcdefghijklmnopqrstuvwxyz"
structure Lt (a b : Nat) (z : Str) : Prop where
  lo : a ≤ z.length
  hi : z.length ≤ b
  ch : ∀ c ∈ z.cps.toList, c ∈ LS.cps.toList
theorem len_tl (z : Str) : z.length = z.cps.toList.length := by
  show z.cps.size = _
  rw [Array.length_toList]
theorem Lt.one {c : Nat} (h : c ∈ LS.cps.toList) : Lt 1 1 ⟨#[c]⟩ := ⟨Nat.le_refl _, Nat.le_refl _, fun d hd => by
  have : d = c := by simpa using hd
  rw [this]
  exact h⟩
theorem Lt.wide {a b a' b' : Nat} {z : Str} (h : Lt a b z) (h1 : a' ≤ a) (h2 : b ≤ b') : Lt a' b' z := ⟨Nat.le_trans h1 h.lo, Nat.le_trans h.hi h2, h.ch⟩
theorem app_len (x y : Str) : (x ++ y).length = x.length + y.length := Str.length_append x y
theorem app_tl (x y : Str) : (x ++ y).cps.toList = x.cps.toList ++ y.cps.toList := by
  rw [Str.cps_append]
  simp
theorem Lt.app {a b c d : Nat} {x y : Str} (h : Lt a b x) (k : Lt c d y) : Lt (a + c) (b + d) (x ++ y) := by
  have h1 := h.lo; have h2 := h.hi; have h3 := k.lo; have h4 := k.hi
  refine ⟨by rw [app_len]; omega, by rw [app_len]; omega, fun e he => ?_⟩
  rw [app_tl] at he
  rcases List.mem_append.mp he with z | z
  · exact h.ch e z
  · exact k.ch e z
theorem cut_mem {z : Str} {lo hi : Option Int} {c : Nat} (h : c ∈ (cutS z lo hi).cps.toList) : c ∈ z.cps.toList := by
  have h2 : c ∈ (z.cps.toList.drop (HT.sIx z.length 0 lo)).take (HT.sIx z.length z.length hi - HT.sIx z.length 0 lo) := by simpa [cutS] using h
  exact List.mem_of_mem_drop (List.mem_of_mem_take h2)
theorem cut_to_len (z : Str) (k : Nat) : (cutS z none (some (k : Int))).length = min k z.length := by
  rw [len_tl]
  show ((z.cps.toList.drop (HT.sIx z.length 0 none)).take (HT.sIx z.length z.length (some (k : Int)) - HT.sIx z.length 0 none)).toArray.toList.length = _
  rw [HT.sIx_nat, HT.sIx_none]
  rw [Nat.sub_zero, List.drop_zero, List.length_take, ← len_tl]
  omega
theorem cut_from_len (z : Str) (k : Nat) (h : k ≤ z.length) : (cutS z (some (k : Int)) none).length = z.length - k := by
  rw [len_tl]
  show ((z.cps.toList.drop (HT.sIx z.length 0 (some (k : Int)))).take (HT.sIx z.length z.length none - HT.sIx z.length 0 (some (k : Int)))).toArray.toList.length = _
  rw [HT.sIx_nat, HT.sIx_none, List.length_take, List.length_drop, ← len_tl]
  omega
theorem Lt.to {a b : Nat} {z : Str} (h : Lt a b z) (k : Nat) : Lt (min k a) (min k b) (cutS z none (some (k : Int))) := by
  have h1 := h.lo; have h2 := h.hi
  exact ⟨by rw [cut_to_len]; omega, by rw [cut_to_len]; omega, fun c hc => h.ch c (cut_mem hc)⟩
theorem joinL_nil : ∀ ps : List (List Nat), TL.joinL [] ps = ps.flatten
  | [] => rfl
  | [p] => by simp [TL.joinL]
  | p :: q :: r => by
    show p ++ ([] ++ TL.joinL [] (q :: r)) = _
    rw [joinL_nil (q :: r)]
    simp
theorem Lt.join {ys : List Str} (h : ∀ y ∈ ys, Lt 1 1 y) : Lt ys.length ys.length (Txt.join "" ys) := by
  have e : (Txt.join "" ys).cps.toList = (ys.map fun y => y.cps.toList).flatten := by
    rw [TL.join_eq]
    exact (TL.tl_join "" ys).trans (joinL_nil _)
  have el : ∀ {ys : List Str}, (∀ y ∈ ys, Lt 1 1 y) → ((ys.map fun y => y.cps.toList).flatten).length = ys.length := by
    intro ys
    induction ys with
    | nil => intro _; rfl
    | cons y r ih =>
      intro h
      have h1 := h y List.mem_cons_self
      have z := ih fun y hy => h y (List.mem_cons_of_mem _ hy)
      have l1 := h1.lo; have l2 := h1.hi
      rw [len_tl] at l1 l2
      rw [List.map_cons, List.flatten_cons, List.length_append, z, List.length_cons]
      omega
  have l := el h
  refine ⟨by rw [len_tl, e, l]; exact Nat.le_refl _, by rw [len_tl, e, l]; exact Nat.le_refl _, fun c hc => ?_⟩
  rw [e] at hc
  obtain ⟨p, hp, hcp⟩ := List.mem_flatten.mp hc
  obtain ⟨y, hy, rfl⟩ := List.mem_map.mp hp
  exact (h y hy).ch c hcp
theorem sum_ones : ∀ {ys : List Str}, (∀ y ∈ ys, Lt 1 1 y) → (ys.map (·.length)).sum = ys.length
  | [], _ => rfl
  | y :: r, h => by
    have h1 := h y List.mem_cons_self
    have z := sum_ones fun y hy => h y (List.mem_cons_of_mem _ hy)
    have l1 := h1.lo; have l2 := h1.hi
    rw [List.map_cons, List.sum_cons, z, List.length_cons]
    omega
/-! ### one that is not used -/
theorem nd_sub {α : Type} [DecidableEq α] : ∀ {xs ys : List α}, xs.Nodup → (∀ x ∈ xs, x ∈ ys) → xs.length ≤ ys.length
  | [], _, _, _ => Nat.zero_le _
  | x :: r, ys, nd, h => by
    have hx := h x List.mem_cons_self
    have nd' := List.nodup_cons.mp nd
    have z := nd_sub (ys := ys.erase x) nd'.2 fun y hy => (List.mem_erase_of_ne (fun e : y = x => nd'.1 (by rw [← e]; exact hy))).mpr (h y (List.mem_cons_of_mem _ hy))
    rw [List.length_erase_of_mem hx] at z
    have : 0 < ys.length := List.length_pos_of_mem hx
    rw [List.length_cons]
    omega
def letter (k : Nat) : Nat := LS.cps.toList.getD k 0
theorem letter_at {k : Nat} (h : k < 26) : LS.cps.toList[k]? = some (letter k) := by
  have z : ∀ j : Nat, j < 26 → LS.cps.toList[j]? = some (letter j) := by decide +kernel
  exact z k h
theorem letter_inj {i j : Nat} (hi : i < 26) (hj : j < 26) (h : letter i = letter j) : i = j := by
  have z : ∀ i : Nat, i < 26 → ∀ j : Nat, j < 26 → letter i = letter j → i = j := by decide +kernel
  exact z i hi j hj h
def tail2 (k : Nat) : Str := (⟨#[letter (k / 26)]⟩ : Str) ++ ⟨#[letter (k % 26)]⟩
theorem tail2_inj {p : Str} {i j : Nat} (hi : i < 676) (hj : j < 676) (h : p ++ tail2 i = p ++ tail2 j) : i = j := by
  have e := congrArg (fun z : Str => z.cps.toList) h
  simp only [app_tl, tail2] at e
  have e2 := List.append_cancel_left e
  have e3 : [letter (i / 26), letter (i % 26)] = [letter (j / 26), letter (j % 26)] := by simpa using e2
  injection e3 with h1 h2
  injection h2 with h2 _
  have a := letter_inj (by omega) (by omega) h1
  have b := letter_inj (by omega) (by omega) h2
  omega
theorem tail2_lt {k : Nat} (h : k < 676) : Lt 2 2 (tail2 k) :=
  (Lt.one (List.mem_of_getElem? (letter_at (by omega)))).app (Lt.one (List.mem_of_getElem? (letter_at (by omega))))
theorem unused (p : Str) (us : List Str) (h : us.length < 676) : ∃ k, k < 676 ∧ p ++ tail2 k ∉ us := by
  apply Classical.byContradiction
  intro no
  have all : ∀ z ∈ (List.range 676).map (fun k => p ++ tail2 k), z ∈ us := fun z hz => by
    obtain ⟨k, hk, rfl⟩ := List.mem_map.mp hz
    apply Classical.byContradiction
    intro q
    exact no ⟨k, List.mem_range.mp hk, q⟩
  have nd : ((List.range 676).map (fun k => p ++ tail2 k)).Nodup := by
    unfold List.Nodup
    rw [List.pairwise_map]
    refine List.Pairwise.imp_of_mem ?_ (List.nodup_range (n := 676))
    intro a b ha hb hab e
    exact hab (tail2_inj (List.mem_range.mp ha) (List.mem_range.mp hb) e)
  have z := nd_sub nd all
  rw [List.length_map, List.length_range] at z
  omega
theorem inV_str {x : Str} (xs : List Str) : inV (.str x) (xs.map V.str) = decide (x ∈ xs) := by
  unfold inV
  induction xs with
  | nil => rfl
  | cons y r ih =>
    rw [List.map_cons, List.any_cons, ih]
    show ((y == x) || decide (x ∈ r)) = decide (x ∈ y :: r)
    by_cases e : x = y
    · subst e; simp
    · have e2 : ¬ y = x := fun q => e q.symm
      simp [e, e2]
theorem strs_flat (xs : List Str) : (xs.map V.str).all flatV = true := by
  rw [List.all_eq_true]
  intro x hx
  obtain ⟨n, _, rfl⟩ := List.mem_map.mp hx
  rfl
end XL
set_option Elab.async false
set_option linter.all false
set_option maxRecDepth 100000
set_option maxHeartbeats 4000000
/-! XLine: C(*row), a method within a try, zip with K said, classes of an own error. -/
namespace XL
open PySem PySem.Spec PyProof.Rows L2
section
variable {X : Cx} {CX : CXT} {k : Nat} {f C : Addr} {fd : FuncData} {ps : List Str} {ds : List Value} {dvs : List V} {sp : Sp} {x m : Str} {p pos apos sp_ : Pos} {e o : Expr} {es : List Expr} {te ta : TE} {t : TA}
def tMakeS (K : PySem.W.Frag) (C : Addr) (sp : Sp) (dvs : List V) (E : XK) (te : TE) : TE := fun σ H Q => te σ H fun y H1 => ∃ a xs, y = V.ref a ∧ (SqT K H1 a xs ∨ SqL K H1 a xs) ∧
  ∀ x dx, H1 x = none → H1 dx = none → dx ≠ x → sp (.ref x :: (xs ++ dvs)) (upd (upd H1 dx (.own x)) x (.ins C dx [])) (fun v H2 => v = .non ∧ Q (.ref x) H2) E
/-- C(*row) -/
theorem pe_makeS {E : XK} (K : PySem.W.Frag) (M : Mk X.K C f) (F : FnOk X.prog X.w X.K X.mg X.base CX k f fd ps sp) (hr : Room (k + 1) X.A) (hg : Gl X x) (hm : X.mg x = some (.ref C)) (hb : Binds X.K fd ps ds) (hd : Vals dvs ds) (hx : Passes CX X E) (he : PE X e te) (hK : X.K = K := by rfl) (hdb : (x == ("__debug__" : Str)) = false := by decide)
    (hst : starEach [.Starred e sp_] X.env = [(true, eval e X.env)] := by rfl) : PE X (.Call (.Name x p) [.Starred e sp_] [] pos) (tMakeS K C sp dvs E te) := by
  subst hK
  refine ⟨fun pins s σ H Q I h => ?_⟩
  refine wpAny_Call_Name_kw (ld_glob I hg hm ?_ hdb)
  refine PySem.W.callWith_S (h₀ := X.base) I.ok.mod.kin M.kp (thn (he.run pins s σ H _ I h) fun v s1 ⟨y, H1, I1, ry, a, xs, ey, hxs, q⟩ => ?_) hst
  subst ey
  obtain rfl : v = Value.ref a := ry
  exact StX.star_any I1 hxs fun us s2 I2 rv => ⟨I2.kIn, run_make M F hr hb hd hx I2 rv q⟩
def tMethS (C : Addr) (m : Str) (sp : Sp) (E : L2.St → XK) (ta : TE) (t : TA) : TE := fun σ H Q => ta σ H fun x H1 => ∃ a dx fs, x = .ref a ∧ H1 a = some (.ins C dx fs) ∧ fs.lookup m = none ∧
  t σ H1 fun vs H2 => sp (x :: vs) H2 Q (E σ)
/-- o.m(..) within a try -/
theorem pe_methT {E : L2.St → XK} {pl : Sem Bool} (he : PE X o ta) (c : Cls X.K C) (hm : Meth X.K C m f) (F : FnOk X.prog X.w X.K X.mg X.base CX k f fd ps sp) (hr : Room k X.A) (hb : Binds X.K fd ps []) (hx : ∀ σ, PassesAt CX X σ (E σ)) (ha : PA X (e :: es) t)
    (hst : starEach (e :: es) X.env = (false, eval e X.env) :: starEach es X.env := by rfl) (hpl : (backTo pos (starEach es X.env)).any (·.1) = false := by rfl)
    (ht : eval (.Call (.Attribute o m apos) (e :: es) [] pos) X.env = (do
      let ov ← eval o X.env
      standAt apos.atName
      let (f, first) ← holding [ov] (getMethod ov m pl)
      callWith pos f first (backTo pos (starEach (e :: es) X.env)) (backToKw pos (keywordEach [] X.env))) := by rfl) :
    PE X (.Call (.Attribute o m apos) (e :: es) [] pos) (tMethS C m sp E ta t) := by
  refine ⟨fun pins s σ H Q I h => ?_⟩
  refine PySem.W.methodCall_KW (pl := pl) (thn (he.run pins s σ H _ I h) fun u s1 ⟨x, H1, I1, rx, a, dx, fs, ex, ea, l, q⟩ => ?_) ht
  subst ex
  obtain rfl : u = Value.ref a := rx
  refine getmeth_ok I1 ea c hm l ?_
  refine PySem.W.callWith_K (first := [.ref a]) (h₀ := X.base) I.ok.mod.kin hm.kp (thn (ha.run pos pins s1 σ H1 _ I1 q) fun us s2 ⟨vs, H2, I2, r, q2⟩ => ⟨I2.kIn, ?_⟩) hst hpl
  exact run_fnS (us := .ref a :: us) (vs := .ref a :: vs) (E := E) F hr hb (hx σ) I2 (.cons rfl r) q2
theorem pe_methT0 {E : L2.St → XK} {pl : Sem Bool} (he : PE X o ta) (c : Cls X.K C) (hm : Meth X.K C m f) (F : FnOk X.prog X.w X.K X.mg X.base CX k f fd ps sp) (hr : Room k X.A) (hb : Binds X.K fd ps []) (hx : ∀ σ, PassesAt CX X σ (E σ))
    (ht : eval (.Call (.Attribute o m apos) [] [] pos) X.env = (do
      let ov ← eval o X.env
      standAt apos.atName
      let (f, first) ← holding [ov] (getMethod ov m pl)
      callWith pos f first (backTo pos (starEach [] X.env)) (backToKw pos (keywordEach [] X.env))) := by rfl) :
    PE X (.Call (.Attribute o m apos) [] [] pos) (tMethS C m sp E ta tNil) := by
  refine ⟨fun pins s σ H Q I h => ?_⟩
  refine PySem.W.methodCall_KW (pl := pl) (thn (he.run pins s σ H _ I h) fun u s1 ⟨x, H1, I1, rx, a, dx, fs, ex, ea, l, q⟩ => ?_) ht
  subst ex
  obtain rfl : u = Value.ref a := rx
  refine getmeth_ok I1 ea c hm l ?_
  exact PySem.W.callWith_K0 (first := [.ref a]) I1.kIn hm.kp (run_fnS (us := [.ref a]) (vs := [.ref a]) (E := E) F hr hb (hx σ) I1 (.cons rfl .nil) q)
theorem pi_zipK {e e2 : Expr} {ta : TA} {p pos tpos : Pos} {elts : List Expr} {kk : Nat} (K : PySem.W.Frag) (hg : Gl X "zip") (hm : X.mg "zip" = none) (ha : PA X [e, e2] ta) (hK : X.K = K := by rfl)
    (hs : starEach [e, e2] X.env = (false, eval e X.env) :: starEach [e2] X.env := by rfl) (hpl : (backTo pos (starEach [e2] X.env)).any (·.1) = false := by rfl) :
    PI X (.Tuple elts kk tpos) (.Call (.Name "zip" p) [e, e2] [] pos) (iZip K ta) := hK ▸ pi_zip hg hm ha hs hpl
end
theorem kit_ty_of {K : PySem.W.Frag} {D : Addr} {T : String} {b : Bool} (h1 : PySem.W.kitMeta T = true) (h2 : PySem.W.subIn K (.ref D) (.type T) = some b) : PySem.W.kitOne K (.ref D) (.type T) = some b := by
  show (if (Value.ref D == Value.type T) = true then some true else (if PySem.W.kitMeta T = true then PySem.W.subIn K (.ref D) (.type T) else none)) = some b
  rw [if_neg (fun h => by cases h), if_pos h1]
  exact h2
end XL
set_option Elab.async false
set_option linter.all false
set_option maxRecDepth 100000
set_option maxHeartbeats 4000000
/-! XHot: a def that raises nothing and walks nothing, called within an except suite. -/
namespace XL
open PySem PySem.Spec PyProof.Rows L2 L2H
/-- what a def promises there -/
structure FnQ (P : Program) (w : World) (K : PySem.W.Frag) (mg : Str → Option Value) (base : Heap) (k : Nat) (f : Addr) (fd : FuncData) (ps : List Str) (sp : Sp) : Prop where
  len : ∀ vs H Q E, sp vs H Q E → vs.length = ps.length
  run : ∀ (A : Around) (outer : List Env) (s : Shared) (H : Hp) (args : Args) (us : List Value) (vs : List V) (Q : VK) (E : XK) (p : Addr × Obj), RoomH k A → PinOk outer H s p → Env0 P w K mg base A outer s H → BindsTo s fd args (ps.zip us) → Vals vs us → sp vs H Q E →
    codeAny (model P w) A (.call (.ref f) args) (CR CX0 outer P w H s Q E) s
theorem okQ {P : Program} {w : World} {K : PySem.W.Frag} {mg : Str → Option Value} {base : Heap} {x qual : Str} {st : Stmt} {f : Addr} {fd : FuncData} {N ps : List Str} {k : Nat} {sp : Sp} (F : Fun K x qual st f fd) (S : FnScope N ps (defScope st)) (len : ∀ vs H Q E, sp vs H Q E → vs.length = ps.length)
    (hbody : ∀ (cdv : Value) (A : Around) (outer : List Env) (s : Shared) (H : Hp) (vs : List V) (Q : VK) (E : XK) (p : Addr × Obj), RoomH k (A.deeper (envOfC qual (defScope st) s.heap.objs.size f cdv)) → sp vs H Q E →
      ∃ t, PSs (cxH CX0 P w K mg base N qual (defScope st) f cdv A outer s H E p) (defBody st) t ∧ t { nx := fun _ H' => Q .non H', rt := Q } (L2.start N vs) H) : FnQ P w K mg base (k + 1) f fd ps sp := by
  obtain ⟨oc, od, kV, doc, pm, an, cdv, ct, osl, rfl, lk, hcd⟩ := F.ex
  refine ⟨len, fun A outer s H args us vs Q E p hr hpin e0 hb r hsp => ?_⟩
  have hl := len _ _ _ _ hsp
  have KX : K.In s.heap := e0.mod.kin.keeps fun b o e => (e0.bs b o e).1
  have lim : s.heap.NoLimit := e0.mod.nolimit.keeps fun b o e => (e0.bs b o e).1
  have hkind : ∀ y ∈ ps.zip us, (defScope st).names.lookup y.1 = some .local ∨ ((defScope st).names.lookup y.1 = some .cell ∧ ((cellsFrom (s.heap.objs.size + 1) (defScope st).names []).lookup y.1).isSome = true) := fun ⟨n, v⟩ hy => by
    rcases S.par n (List.of_mem_zip hy).1 with q | q
    · exact .inl q
    · exact .inr ⟨q, PySem.W.cellsFrom_some _ _ _ (.inl q)⟩
  refine codeAny_call_function hr.depth (KX _ _ lk) rfl S.co S.gen rfl (PySem.W.codeRec_of KX hcd) (hb _ _ _ _ ?_)
  refine wpAny_newFunctionEnv_cells S.kind hkind fun env he s1 x => ?_
  subst he
  refine ⟨lim.keeps x.toInCall.keep, codeAny_func ?_⟩
  obtain ⟨t, ht, hq⟩ := hbody cdv A outer s H vs Q E p (hr.deeper _) hsp
  have I : Inv (cxH CX0 P w K mg base N qual (defScope st) f cdv A outer s H E p) [] (L2.start N vs) H s1 := inv_startH S hpin e0 hl r x
  refine wpAny_mono (ht.run [] s1 (L2.start N vs) H _ I hq) (fun fl s' hs => ?_) fun e s' hs => hs
  have fin : ∀ {σ' : L2.St} {H' : Hp} {v : V} {u : Value}, Inv (cxH CX0 P w K mg base N qual (defScope st) f cdv A outer s H E p) [] σ' H' s' → RelV v u → Q v H' → CE outer P w H s Q u s' :=
    fun {σ' H' v u} J rv q => ⟨v, H', J.os, J.bare, J.base, J.hok, rv, q⟩
  cases fl with
  | ret u =>
    obtain ⟨v, σ', H', J, rv, q⟩ := hs
    exact fin J rv q
  | next =>
    obtain ⟨σ', H', J, q⟩ := hs
    exact fin (v := V.non) (u := Value.none) J rfl q
  | brk =>
    obtain ⟨_, _, _, q⟩ := hs
    exact False.elim q
  | cont =>
    obtain ⟨_, _, _, q⟩ := hs
    exact False.elim q
section
variable {X : Cx} {k : Nat} {f : Addr} {fd : FuncData} {ps : List Str} {sp : Sp} {E : XK} {x : Str} {q pos : Pos} {e : Expr} {es : List Expr} {t : TA}
theorem pe_callQ (F : FnQ X.prog X.w X.K X.mg X.base k f fd ps sp) (hr : RoomH k X.A) (hc : ∃ p, p ∈ X.pn) (hg : Gl X x) (hm : X.mg x = some (.ref f)) (hk : PySem.W.keepIn X.K (.ref f) = true) (hb : Binds X.K fd ps []) (hx : Passes CX0 X E)
    (ha : PA X (e :: es) t) (hdb : (x == ("__debug__" : Str)) = false := by decide) (he : starEach (e :: es) X.env = (false, eval e X.env) :: starEach es X.env := by rfl) (hpl : (backTo pos (starEach es X.env)).any (·.1) = false := by rfl) :
    PE X (.Call (.Name x q) (e :: es) [] pos) (fun σ H Q => t σ H fun vs H1 => sp vs H1 Q E) := by
  refine ⟨fun pins s σ H Q I h => ?_⟩
  refine wpAny_Call_Name_kw (ld_glob I hg hm ?_ hdb)
  refine PySem.W.callWith_K (h₀ := X.base) I.ok.mod.kin hk (thn (ha.run pos pins s σ H _ I h) fun us s1 ⟨vs, H1, I1, r, q⟩ => ⟨I1.kIn, ?_⟩) he hpl
  obtain ⟨p, hp⟩ := hc
  have hl : us.length = ps.length := by rw [← r.length]; exact F.len _ _ _ _ q
  have b := hb s1 us I1.kIn (by rw [List.append_nil]; exact hl)
  rw [List.append_nil] at b
  have P1 := I1.pin p (List.mem_append_left _ hp)
  have hpin : PinOk X.stack H1 s1 p := ⟨P1.1, P1.2.1, fun hm => (List.mem_cons.mp (I1.stkSub p.1 hm)).elim P1.2.2.1 P1.2.2.2.1, P1.2.2.2.2⟩
  refine wpAny_call (codeAny_mono (F.run X.A X.stack s1 H1 ⟨us, []⟩ us vs Q E p hr hpin I1.env0 b r q) fun r s' hq => ?_)
  cases r with
  | error e => exact hx pins σ _ _ e s' I1 hq
  | ok fl =>
    cases fl with
    | ret u => exact I1.after hq
    | next => exact False.elim hq
    | brk => exact False.elim hq
    | cont => exact False.elim hq
end
theorem roomQ {X : Cx} {k j : Nat} {a : Addr} {pn : List (Addr × Obj)} (hr : Room k X.A) (h : j ≤ k) : RoomH j (X.suite a pn).A := ⟨(hr.mono h).dp, (hr.mono h).un⟩
end XL
set_option Elab.async false
set_option linter.all false
set_option maxRecDepth 100000
set_option maxHeartbeats 4000000
/-! XGuard: defs that are called while no repr is under way (Around.guards is known to be empty); repr of data there. -/
namespace XL
open PySem PySem.Spec PyProof.Rows L2
/-- what a def promises when no repr is under way -/
structure FnG (P : Program) (w : World) (K : PySem.W.Frag) (mg : Str → Option Value) (base : Heap) (CX : CXT) (k : Nat) (f : Addr) (fd : FuncData) (ps : List Str) (sp : Sp) : Prop where
  len : ∀ vs H Q E, sp vs H Q E → vs.length = ps.length
  run : ∀ (A : Around) (outer : List Env) (s : Shared) (H : Hp) (args : Args) (us : List Value) (vs : List V) (Q : VK) (E : XK), Room k A → A.guards = some [] → Env0 P w K mg base A outer s H → BindsTo s fd args (ps.zip us) → Vals vs us → sp vs H Q E →
    codeAny (model P w) A (.call (.ref f) args) (CR CX outer P w H s Q E) s
section
variable {P : Program} {w : World} {K : PySem.W.Frag} {mg : Str → Option Value} {base : Heap} {CX : CXT}
theorem FnG.of {k : Nat} {f : Addr} {fd : FuncData} {ps : List Str} {sp : Sp} (F : FnOk P w K mg base CX k f fd ps sp) : FnG P w K mg base CX k f fd ps sp := ⟨F.len, fun A outer s H args us vs Q E hr _ => F.run A outer s H args us vs Q E hr⟩
theorem fnG_of {x qual : Str} {st : Stmt} {f : Addr} {fd : FuncData} {N ps : List Str} {k : Nat} {sp : Sp} (F : Fun K x qual st f fd) (S : FnScope N ps (defScope st)) (len : ∀ vs H Q E, sp vs H Q E → vs.length = ps.length)
    (hbody : ∀ (cdv : Value) (A : Around) (outer : List Env) (s : Shared) (H : Hp) (vs : List V) (Q : VK) (E : XK), Room k (A.deeper (envOfC qual (defScope st) s.heap.objs.size f cdv)) → A.guards = some [] → sp vs H Q E →
      ∃ t, PSs (cxOf CX P w K mg base N qual (defScope st) f cdv A outer s H E) (defBody st) t ∧ t { nx := fun _ H' => Q .non H', rt := Q } (L2.start N vs) H) : FnG P w K mg base CX (k + 1) f fd ps sp := by
  obtain ⟨oc, od, kV, doc, pm, an, cdv, ct, osl, rfl, lk, hcd⟩ := F.ex
  refine ⟨len, fun A outer s H args us vs Q E hr hg e0 hb r hsp => ?_⟩
  have hl := len _ _ _ _ hsp
  have KX : K.In s.heap := e0.mod.kin.keeps fun b o e => (e0.bs b o e).1
  have lim : s.heap.NoLimit := e0.mod.nolimit.keeps fun b o e => (e0.bs b o e).1
  have hkind : ∀ y ∈ ps.zip us, (defScope st).names.lookup y.1 = some .local ∨ ((defScope st).names.lookup y.1 = some .cell ∧ ((cellsFrom (s.heap.objs.size + 1) (defScope st).names []).lookup y.1).isSome = true) := fun ⟨n, v⟩ hy => by
    rcases S.par n (List.of_mem_zip hy).1 with q | q
    · exact .inl q
    · exact .inr ⟨q, PySem.W.cellsFrom_some _ _ _ (.inl q)⟩
  refine codeAny_call_function hr.depth (KX _ _ lk) rfl S.co S.gen rfl (PySem.W.codeRec_of KX hcd) (hb _ _ _ _ ?_)
  refine wpAny_newFunctionEnv_cells S.kind hkind fun env he s1 x => ?_
  subst he
  refine ⟨lim.keeps x.toInCall.keep, codeAny_func ?_⟩
  obtain ⟨t, ht, hq⟩ := hbody cdv A outer s H vs Q E (hr.deeper _) hg hsp
  have I : Inv (cxOf CX P w K mg base N qual (defScope st) f cdv A outer s H E) [] (L2.start N vs) H s1 := inv_start S hr.hd e0 hl r x
  refine wpAny_mono (ht.run [] s1 (L2.start N vs) H _ I hq) (fun fl s' hs => ?_) fun e s' hs => hs
  cases fl with
  | ret u =>
    obtain ⟨v, σ', H', J, rv, q⟩ := hs
    exact ⟨v, H', J.os, J.bare, J.base, J.hok, rv, q⟩
  | next =>
    obtain ⟨σ', H', J, q⟩ := hs
    exact ⟨V.non, H', J.os, J.bare, J.base, J.hok, rfl, q⟩
  | brk =>
    obtain ⟨_, _, _, q⟩ := hs
    exact False.elim q
  | cont =>
    obtain ⟨_, _, _, q⟩ := hs
    exact False.elim q
/-- a def that raises nothing -/
theorem okG {x qual : Str} {st : Stmt} {f : Addr} {fd : FuncData} {N ps : List Str} {k : Nat} {sp : Sp} (F : Fun K x qual st f fd) (S : FnScope N ps (defScope st)) (len : ∀ vs H Q E, sp vs H Q E → vs.length = ps.length)
    (hbody : ∀ (cdv : Value) (A : Around) (outer : List Env) (s : Shared) (H : Hp) (vs : List V) (Q : VK) (E : XK), Room k (A.deeper (envOfC qual (defScope st) s.heap.objs.size f cdv)) → A.guards = some [] → sp vs H Q E →
      ∃ t, PSs (cxOf CX0 P w K mg base N qual (defScope st) f cdv A outer s H E).nox (defBody st) t ∧ t { nx := fun _ H' => Q .non H', rt := Q } (L2.start N vs) H) : FnG P w K mg base CX0 (k + 1) f fd ps sp :=
  fnG_of F S len fun cdv A outer s H vs Q E hr hg hsp => let ⟨t, h, q⟩ := hbody cdv A outer s H vs Q E hr hg hsp; ⟨t, h.nox, q⟩
end
section
variable {X : Cx} {CX : CXT} {k : Nat} {f : Addr} {fd : FuncData} {ps : List Str} {sp : Sp} {E : XK} {x : Str} {p pos : Pos} {e : Expr} {es : List Expr} {t : TA}
theorem run_fnG {pins : List (Addr × Obj)} {σ : L2.St} {H : Hp} {s : Shared} {Q : VK} {us : List Value} {vs : List V} (F : FnG X.prog X.w X.K X.mg X.base CX k f fd ps sp) (hr : Room k X.A) (hg : X.A.guards = some []) (hb : Binds X.K fd ps []) (hx : Passes CX X E)
    (I : Inv X pins σ H s) (r : Vals vs us) (h : sp vs H Q E) : wpAny (model X.prog X.w) X.A (call (.ref f) us) (EP X pins σ Q) X.xe s := by
  have hl : us.length = ps.length := by rw [← r.length]; exact F.len _ _ _ _ h
  have b := hb s us I.kIn (by rw [List.append_nil]; exact hl)
  rw [List.append_nil] at b
  refine wpAny_call (codeAny_mono (F.run X.A X.stack s H ⟨us, []⟩ us vs Q E hr hg I.env0 b r h) fun r s' hq => ?_)
  cases r with
  | error e => exact hx pins σ _ _ e s' I hq
  | ok fl =>
    cases fl with
    | ret u => exact I.after hq
    | next => exact False.elim hq
    | brk => exact False.elim hq
    | cont => exact False.elim hq
theorem pe_callG (F : FnG X.prog X.w X.K X.mg X.base CX k f fd ps sp) (hr : Room k X.A) (hg : X.A.guards = some []) (hgl : Gl X x) (hm : X.mg x = some (.ref f)) (hk : PySem.W.keepIn X.K (.ref f) = true) (hb : Binds X.K fd ps []) (hx : Passes CX X E)
    (ha : PA X (e :: es) t) (hdb : (x == ("__debug__" : Str)) = false := by decide) (he : starEach (e :: es) X.env = (false, eval e X.env) :: starEach es X.env := by rfl) (hpl : (backTo pos (starEach es X.env)).any (·.1) = false := by rfl) :
    PE X (.Call (.Name x p) (e :: es) [] pos) (fun σ H Q => t σ H fun vs H1 => sp vs H1 Q E) := by
  refine ⟨fun pins s σ H Q I h => ?_⟩
  refine wpAny_Call_Name_kw (ld_glob I hgl hm ?_ hdb)
  refine PySem.W.callWith_K (h₀ := X.base) I.ok.mod.kin hk (thn (ha.run pos pins s σ H _ I h) fun us s1 ⟨vs, H1, I1, r, q⟩ => ⟨I1.kIn, ?_⟩) he hpl
  exact run_fnG F hr hg hb hx I1 r q
theorem u70 {k : Nat} {A : Around} (r : Room k A) : A.units + 70 < cLine := by have := r.un; omega
/-- repr of data -/
def rRepr (K : PySem.W.Frag) : List V → Hp → VK → Prop := fun xs H Q => ∃ v d, xs = [v] ∧ Dp K H v d ∧ d.showable = true ∧ d.hasDict = false ∧ d.depth ≤ 64 ∧ d.shown.length ≤ sizeLine ∧ Q (.str d.shown) H
theorem call_reprG (K : PySem.W.Frag) (hg : X.A.guards = some []) (hu : X.A.units + 70 < cLine) (hK : X.K = K := by rfl) : CallR X (.builtin "repr") (rRepr K) := by
  subst hK
  intro pins s σ H xs us Q I r h
  obtain ⟨v, d, rfl, hd, h1, h2, h3, h4, q⟩ := h
  obtain ⟨u, rfl, ru⟩ : ∃ u, us = [u] ∧ RelV v u := by
    cases r with
    | cons a b =>
      cases b
      exact ⟨_, rfl, a⟩
  obtain ⟨as, rd⟩ := Dp.reads I d v u hd ru
  have big : ∀ a : Addr, u = .ref a → wpAny (model X.prog X.w) X.A (call (.builtin "repr") [u]) (EP X pins σ Q) X.xe s := by
    rintro a rfl
    exact repr_of_reads' rd h1 (PyData.noDict_hsm h2) hg (by omega) (fun _ _ e => e) (fun h' t tk hk => ⟨.str d.shown, H, I.kept hk, ⟨_, rfl⟩, q⟩) h4
  cases hd with
  | non =>
    cases ru
    exact PySem.P.repr_of_none ⟨.str _, H, I.tok _, ⟨_, rfl⟩, by simpa only [PyData.shown] using q⟩
  | bl b =>
    cases ru
    exact PySem.P.repr_of_bool ⟨.str _, H, I.tok _, ⟨_, rfl⟩, by simpa only [PyData.shown] using q⟩
  | int i =>
    obtain ⟨t, rfl⟩ := ru
    exact PySem.P.repr_of_int (by simpa [PyData.showable] using h1) ⟨.str _, H, I.tok _, ⟨_, rfl⟩, by simpa only [PyData.shown] using q⟩
  | str x =>
    obtain ⟨t, rfl⟩ := ru
    exact PySem.P.repr_of_str ⟨.str _, H, I.tok _, ⟨_, rfl⟩, by simpa only [PyData.shown] using q⟩ (by simpa only [PyData.shown] using h4)
  | lst _ _ => exact big _ ru
  | tup _ _ => exact big _ ru
end
/-! ### the law's own call -/
theorem law_callG {P : Program} {w : World} {K : PySem.W.Frag} {mg mb : Str → Option Value} {CX : CXT} {k : Nat} {fa a : Addr} {fd : FuncData} {x : Str} {sp : Sp} {s₁ : Shared} {vs : List Value} {ns : List Int}
    (KX : K.In s₁.heap) (hns : s₁.heap.Ns mainGlobals mg) (hb : s₁.heap.Ns builtinsNs mb) (hbb : ∀ x : Str, x ≠ "__name__" → mb x = bootBuiltins x) (hlim : s₁.heap.NoLimit) (hg : s₁.gens = #[])
    (ha : s₁.heap.get? a = some { cls := .type "list", data := .seq vs.toArray }) (hi : IntsAre vs ns) (hl : ns.length ≤ sizeLine) (hr : Room k callerA)
    (F : ∀ base : Heap, K.In base → base.Ns mainGlobals mg → FnG P w K mg base CX k fa fd [x] sp) (hbind : ∀ (s : Shared) (u : Value), BindsTo s fd ⟨[u], []⟩ [(x, u)])
    (hsp : ∀ H : Hp, Only H → SqL K H a (ns.map V.int) → sp [.ref a] H (fun v _ => v = .bl true) fun _ _ _ => False)
    (hCX : ∀ H e s', CX [] H s₁ (fun _ _ _ => False) e s' → False) :
    codeAny (model P w) callerA (.call (.ref fa) ⟨[.ref a], []⟩) (fun r s' => r = .ok (.ret (.bool true)) ∧ OldK s₁.heap s'.heap ∧ s'.os = s₁.os ∧ AllBare s'.gens) s₁ := by
  have rv := vals_ints hi
  have lenV := hi.length
  -- nothing is tracked but the script
  have main : ∀ H : Hp, (∀ b, H b = none ∨ (b = a ∧ K.lookup a = none ∧ H b = some (.frz { cls := .type "list", data := .seq vs.toArray } (.lst (ns.map V.int))))) → SqL K H a (ns.map V.int) → HOk P w H s₁.heap →
      codeAny (model P w) callerA (.call (.ref fa) ⟨[.ref a], []⟩) (fun r s' => r = .ok (.ret (.bool true)) ∧ OldK s₁.heap s'.heap ∧ s'.os = s₁.os ∧ AllBare s'.gens) s₁ := by
    intro H hH hS hok
    have nsK : ∀ {b : Addr} {m : Str → Option Value}, s₁.heap.Ns b m → (hidT s₁.heap H).Ns b m := fun {b m} ⟨o, es, ep, e, d, r⟩ => by
      refine ⟨o, es, ep, hidT_get e ?_, d, r⟩
      rcases hH b with z | ⟨z, _⟩
      · exact z
      · rw [z, ha] at e
        cases e
        cases d
    have hKb : K.In (hidT s₁.heap H) := fun b o e => hidT_get (KX b o e) (by
      rcases hH b with z | ⟨z, z2, _⟩
      · exact z
      · rw [z, z2] at e
        cases e)
    have hM : Mod K mg (hidT s₁.heap H) := ⟨hKb, nsK hns, ⟨mb, nsK hb, hbb⟩, let ⟨mc, h1, h2⟩ := hlim; ⟨mc, nsK h1, h2⟩⟩
    have e0 : Env0 P w K mg (hidT s₁.heap H) callerA [] s₁ H := ⟨rfl, hM, fun b o e => of_hidT e, Nat.le_of_eq (hidT_size _ _), trivial, fun b hb => (nomatch hb), hok, .of_eq hg⟩
    have hO : Only H := fun b => (hH b).imp id fun z => ⟨_, _, z.2.2⟩
    refine codeAny_mono ((F _ hKb (nsK hns)).run callerA [] s₁ H ⟨[.ref a], []⟩ [.ref a] [.ref a] _ _ hr rfl e0 (hbind s₁ (.ref a)) (.cons rfl .nil) (hsp H hO hS)) fun r s' h => ?_
    cases r with
    | error e => exact (hCX H e s' h).elim
    | ok fl =>
      cases fl with
      | next => exact False.elim h
      | brk => exact False.elim h
      | cont => exact False.elim h
      | ret u =>
        obtain ⟨v, H', os, bare, un, hok', r', q⟩ := h
        have q' : v = .bl true := q
        subst q'
        obtain rfl : u = Value.bool true := r'
        refine ⟨rfl, OldK.of_keep fun b o e => ?_, os, bare⟩
        rcases hH b with z | ⟨_, _, z⟩
        · exact un.keep b o e z (fun y => nomatch y) (by simp)
        · obtain ⟨e1, _⟩ := hok b _ z
          obtain ⟨e2, _⟩ := hok' b _ (un.frzs b _ _ z)
          rw [e] at e1
          cases e1
          exact e2
  cases hk : K.lookup a with
  | some o =>
    have e := KX a o hk
    rw [ha] at e
    cases e
    exact main (fun _ => none) (fun _ => .inl rfl) (.inr ⟨_, vs.toArray, _, hk, rfl, rfl, rfl, by rw [List.size_toArray, lenV]; exact hl, by simpa using rv⟩) (fun b u z => nomatch z)
  | none =>
    refine main (fun b => if b = a then some (.frz { cls := .type "list", data := .seq vs.toArray } (.lst (ns.map V.int))) else none) (fun b => ?_) (.inl (.inr ⟨{ cls := .type "list", data := .seq vs.toArray }, if_pos rfl⟩)) (fun b u z => ?_)
    · by_cases hb : b = a
      · exact .inr ⟨hb, hk, if_pos hb⟩
      · exact .inl (if_neg hb)
    · by_cases hb : b = a
      · have z' := (if_pos hb).symm.trans z
        cases z'
        subst hb
        exact ⟨ha, by rw [List.length_map]; exact hl, vs, _, rv, ha⟩
      · have z' := (if_neg hb).symm.trans z
        cases z'
theorem walk_ofG {l : PySem.W.OpenLaw} {n k : Nat} {q : Program} {loose : List Str} {XP : (Str → Option Value) → Heap → Prop} {YP : World → Heap → Prop} {d : DefRec} {K : Params → PySem.W.Frag} {CX : World → CXT} {sp : World → Sp} {x : Str}
    (hn : l.most = some n) (hn2 : n ≤ sizeLine) (hdf : d.params.defaults = []) (hr : Room k callerA)
    (hY : ∀ (w : World) (h : Heap), YP w h → (K w.params).In h)
    (F : ∀ (w : World) (mg : Str → Option Value) (fa : Addr) (h : Heap), (K w.params).In h → h.Ns mainGlobals mg → mg d.name = some (.ref fa) →
      ∃ fd : FuncData, (∀ (s : Shared) (u : Value), BindsTo s fd ⟨[u], []⟩ [(x, u)]) ∧
        ∀ base : Heap, (K w.params).In base → base.Ns mainGlobals mg → FnG l.prog w (K w.params) mg base (CX w) k fa fd [x] (sp w))
    (hsp : ∀ (w : World) (H : Hp) (a : Addr) (ns : List Int), ns.length ≤ n → Only H → SqL (K w.params) H a (ns.map V.int) → sp w [.ref a] H (fun v _ => v = .bl true) fun _ _ _ => False)
    (hCX : ∀ (w : World) (H : Hp) (s : Shared) (e : Value) (s' : Shared), CX w [] H s (fun _ _ _ => False) e s' → False) :
    PySem.W.WalkO q loose XP YP l.row.toRowW d [] (fun f vs => PySem.call f vs) := by
  refine Att.attach_call hn hdf fun w s₀ s₁ mg mb fa o pm cd doc a vs ns G Y ho hd hcd hmg hobj hints hlen hg => ?_
  have KX := hY w _ Y
  obtain ⟨fd, hb, hF⟩ := F w mg fa _ KX G.T.g hmg
  exact law_callG KX G.T.g G.T.b G.T.builtins G.T.nolimit hg hobj hints (Nat.le_trans hlen hn2) hr hF hb (fun H hO hS => hsp w H a ns hlen hO hS) fun H e s' => hCX w H s₁ e s'
end XL
set_option Elab.async false
set_option linter.all false
set_option maxRecDepth 100000
set_option maxHeartbeats 4000000
/-! XStar: defs with a star parameter, called with plain arguments. -/
namespace XL
open PySem PySem.Spec PyProof.Rows L2
/-! ### list.extend of a tuple -/
theorem ext_tup (l : Addr) (items : Array Value) (n : Nat) (b : Addr) (items2 : Array Value) (n2 : Nat) (dc : Option Addr) (sl : Array (Option Value)) (hs0 : ¬(!items.isEmpty && Builtin.List.listTooLong (items.size + items2.size)) = true) (hs1 : items.size ≤ sizeLine) (hs2 : items.size + items2.size ≤ sizeLine + 1) :
    Meets (Builtin.«list.extend» ⟨[.ref l, .ref b], []⟩) (fun _ R s => s.heap.get? l = some { cls := .type "list", dict := none, data := .seq items n, slots := #[] } ∧ s.heap.get? b = some { cls := .type "tuple", dict := dc, data := .seq items2 n2, slots := sl } ∧ R (.ok (.ret Value.none)) { s with heap := s.heap.update l (Obj.mapSeq fun x => x ++ items2), toks := s.toks }) :=
  .of_wp fun prog w A R s h => by
    obtain ⟨hp, g, d, tk, os⟩ := s
    obtain ⟨hl, hb, h⟩ := h
    have f1 := AutoSeq1.idx_int; have f2 := AutoSeq1.sub_tuple_tuple; have f3 := AutoSeq1.sub_list_list; have f4 := AutoSeq1.sub_tuple_list; have f5 := AutoSeq1.sub_list_tuple
    have hz' : (items ++ items2).size ≤ sizeLine + 1 := by rw [Array.size_append]; exact hs2
    wp_walk using (wpAny_updateSeq hl rfl (hz := hs1) (_hz' := hz')), wpAny_loadPart' hl, wpAny_loadPart' hb
    exact ⟨_, rfl, h⟩
def rExtT (K : PySem.W.Frag) : V → List V → Hp → VK → Prop := fun x vs H Q => ∃ l b xs zs, x = .ref l ∧ vs = [.ref b] ∧ H l = some (.lst xs) ∧ SqT K H b zs ∧ xs.length + zs.length ≤ sizeLine ∧ Q .non (upd H l (.lst (xs ++ zs)))
theorem mt_extT {X : Cx} (K : PySem.W.Frag) (hK : X.K = K := by rfl) : MtM X "list.extend" (rExtT K) := by
  subst hK
  intro pins s σ H x vs v us Q I rx rv h
  obtain ⟨l, b, xs, zs, rfl, rfl, hH, hB, hz, q⟩ := h
  cases rx
  obtain ⟨u, rfl, ru⟩ := rv.one
  cases ru
  obtain ⟨z, its, n, r, hl, e⟩ := I.lstM hH
  obtain ⟨its2, r2, ⟨o2, e2, c2, n2, d2⟩, z2⟩ := I.tuple hB
  have hl2 := r2.length
  obtain ⟨oc, od, odt, osl⟩ := o2
  simp only at c2 d2
  subst c2 d2
  have hsz : its.toArray.size + its2.toArray.size ≤ sizeLine := by rw [List.size_toArray, List.size_toArray]; omega
  have hlong : ¬ (!its.toArray.isEmpty && Builtin.List.listTooLong (its.toArray.size + its2.toArray.size)) = true := by
    rw [notLongL hsz, Bool.and_false]
    exact Bool.false_ne_true
  refine call_meets F.slot_list_extend ⟨_, e, rfl⟩ F.entry_list_extend (F.args_list_extend_2 _ _)
    (ext_tup l its.toArray n b its2.toArray n2 od osl hlong (by rw [List.size_toArray]; omega) (by omega)) ⟨e, e2, ?_⟩
  refine ⟨.non, _, I.lset (its' := its ++ its2) hH e (by simp) (r.append r2) ?_, rfl, q⟩
  rw [List.length_append]
  omega
/-- what a def with a star parameter binds -/
def BindsS (fd : FuncData) (ps : List Str) (pv : Str) : Prop := ∀ us rest : List Value, us.length = ps.length → bindArgs fd ⟨us ++ rest, []⟩ = (newTuple rest >>= fun t => pure (ps.zip us ++ [(pv, t)]))
/-- the promise of a def with a star parameter, from that of its body -/
def spS (n : Nat) (sp : Sp) : Sp := fun vs H Q E => ∃ ws rest, vs = ws ++ rest ∧ ws.length = n ∧ rest.length ≤ sizeLine ∧ ∀ p, H p = Option.none → sp (ws ++ [V.ref p]) (upd H p (.tup rest)) Q E
section
variable {P : Program} {w : World} {K : PySem.W.Frag} {mg : Str → Option Value} {base : Heap}
theorem okS {x qual : Str} {st : Stmt} {f : Addr} {fd : FuncData} {N ps : List Str} {pv : Str} {k : Nat} {sp : Sp} (F : Fun K x qual st f fd) (S : FnScope N (ps ++ [pv]) (defScope st)) (hb : BindsS fd ps pv)
    (hbody : ∀ (cdv : Value) (A : Around) (outer : List Env) (s : Shared) (H : Hp) (vs : List V) (Q : VK) (E : XK), Room k (A.deeper (envOfC qual (defScope st) s.heap.objs.size f cdv)) → sp vs H Q E →
      ∃ t, PSs (cxOf CX0 P w K mg base N qual (defScope st) f cdv A outer s H E).nox (defBody st) t ∧ t { nx := fun _ H' => Q .non H', rt := Q } (L2.start N vs) H) : FnR P w K mg base CX0 (k + 1) f (spS ps.length sp) := by
  obtain ⟨oc, od, kV, doc, pm, an, cdv, ct, osl, rfl, lk, hcd⟩ := F.ex
  refine StX.fn_star (pv := pv) (ps := ps) lk hcd S StX.cxUp_none hb fun A outer s H vs Q E hr hsp => ?_
  obtain ⟨t, h, q⟩ := hbody cdv A outer s H vs Q E hr hsp
  exact ⟨t, h.nox, q⟩
end
section
variable {X : Cx} {CX : CXT} {k : Nat} {f : Addr} {sp : Sp} {E : XK} {x : Str} {p pos : Pos} {e : Expr} {es : List Expr} {t : TA}
/-- x(e, ..) by a positional promise -/
theorem pe_callP (F : FnR X.prog X.w X.K X.mg X.base CX k f sp) (hr : Room k X.A) (hgl : Gl X x) (hm : X.mg x = some (.ref f)) (hk : PySem.W.keepIn X.K (.ref f) = true) (hx : Passes CX X E)
    (ha : PA X (e :: es) t) (hdb : (x == ("__debug__" : Str)) = false := by decide) (he : starEach (e :: es) X.env = (false, eval e X.env) :: starEach es X.env := by rfl) (hpl : (backTo pos (starEach es X.env)).any (·.1) = false := by rfl) :
    PE X (.Call (.Name x p) (e :: es) [] pos) (fun σ H Q => t σ H fun vs H1 => sp vs H1 Q E) := by
  refine ⟨fun pins s σ H Q I h => ?_⟩
  refine wpAny_Call_Name_kw (ld_glob I hgl hm ?_ hdb)
  refine PySem.W.callWith_K (h₀ := X.base) I.ok.mod.kin hk (thn (ha.run pos pins s σ H _ I h) fun us s1 ⟨vs, H1, I1, r, q⟩ => ⟨I1.kIn, ?_⟩) he hpl
  exact wpAny_call (run_fnR F hr hx I1 r q)
/-- x() -/
theorem pe_callP0 (F : FnR X.prog X.w X.K X.mg X.base CX k f sp) (hr : Room k X.A) (hgl : Gl X x) (hm : X.mg x = some (.ref f)) (hk : PySem.W.keepIn X.K (.ref f) = true) (hx : Passes CX X E) (hdb : (x == ("__debug__" : Str)) = false := by decide) :
    PE X (.Call (.Name x p) [] [] pos) (fun _ H Q => sp [] H Q E) := by
  refine ⟨fun pins s σ H Q I h => ?_⟩
  refine wpAny_Call_Name_kw (ld_glob I hgl hm ?_ hdb)
  exact PySem.W.callWith_K0 I.kIn hk (wpAny_call (run_fnR (us := []) F hr hx I .nil h))
end
section
variable {B : List Value → Sem (List (Str × Value))} {p1 p2 p3 p4 pv : Str}
theorem bindS0 (h0 : B [] = (newTuple [] >>= fun t => pure [(pv, t)])) (h1 : ∀ r rs, B (r :: rs) = (newTuple (r :: rs) >>= fun t => pure [(pv, t)])) :
    ∀ us rest : List Value, us.length = ([] : List Str).length → B (us ++ rest) = (newTuple rest >>= fun t => pure (([] : List Str).zip us ++ [(pv, t)]))
  | [], [], _ => h0
  | [], r :: rs, _ => h1 r rs
theorem bindS1 (h0 : ∀ a, B [a] = (newTuple [] >>= fun t => pure [(p1, a), (pv, t)])) (h1 : ∀ a r rs, B (a :: r :: rs) = (newTuple (r :: rs) >>= fun t => pure [(p1, a), (pv, t)])) :
    ∀ us rest : List Value, us.length = [p1].length → B (us ++ rest) = (newTuple rest >>= fun t => pure ([p1].zip us ++ [(pv, t)]))
  | [a], [], _ => h0 a
  | [a], r :: rs, _ => h1 a r rs
theorem bindS4 (h0 : ∀ a b c d, B [a, b, c, d] = (newTuple [] >>= fun t => pure [(p1, a), (p2, b), (p3, c), (p4, d), (pv, t)])) (h1 : ∀ a b c d r rs, B (a :: b :: c :: d :: r :: rs) = (newTuple (r :: rs) >>= fun t => pure [(p1, a), (p2, b), (p3, c), (p4, d), (pv, t)])) :
    ∀ us rest : List Value, us.length = [p1, p2, p3, p4].length → B (us ++ rest) = (newTuple rest >>= fun t => pure ([p1, p2, p3, p4].zip us ++ [(pv, t)]))
  | [a, b, c, d], [], _ => h0 a b c d
  | [a, b, c, d], r :: rs, _ => h1 a b c d r rs
end
end XL
set_option Elab.async false
set_option linter.all false
set_option maxRecDepth 100000
set_option maxHeartbeats 4000000
/-! XTree: t[::-1] of a tuple; == of data of more levels; objects whose own __iter__ hands on iter(l), l a list. -/
namespace XL
open PySem PySem.Spec PyProof.Rows L2
section
variable {prog : Program} {w : World} {A : Around} {E : Value → Shared → Prop} {s : Shared}
theorem applied_rev {sl : Addr} {t : Tok} {n : Nat} {Q : Int × Int × Nat → Shared → Prop} (hs : s.heap.IsSliceOf sl .none .none (.int (-1) t)) (h : Q ((n : Int) - 1, -1, n) s) :
    wpAny (model prog w) A (Builtin.Slice.sliceApplied (.ref sl) (pure (n : Int))) Q E s := by
  obtain ⟨os, hos, hcs, hds⟩ := id hs
  unfold Builtin.Slice.sliceApplied Builtin.Slice.sliceFields
  refine wpAny_bind (wpAny_bind (wpAny_field hos hds (x := .none) rfl (wpAny_bind (wpAny_field hos hds (x := .none) rfl (wpAny_bind (wpAny_field hos hds (x := .int (-1) t) rfl (wpAny_pure ?_)))))))
  refine wpAny_bind (HT.slicePart_ (.int (-1) t) ?_)
  show wpAny _ _ (if ((-1 : Int) == 0) = true then _ else _) _ _ s
  rw [if_neg (by decide)]
  refine wpAny_bind (HT.slicePart_ .none (wpAny_bind (HT.slicePart_ .none (wpAny_bind (wpAny_pure ?_)))))
  show wpAny _ _ (pure ((n : Int) - 1, (-1 : Int), Builtin.Slice.slicePlaces ((n : Int) - 1) (-1) (-1))) _ _ s
  have e : Builtin.Slice.slicePlaces ((n : Int) - 1) (-1) (-1) = n := by
    unfold Builtin.Slice.slicePlaces
    have h1 : ¬ ((-1 : Int) > 0) := by decide
    simp only [h1, if_false]
    split
    · rw [show (- -1 : Int) = 1 by decide, Int.ediv_one]
      omega
    · omega
  rw [e]
  exact wpAny_pure h
theorem fm_congr {α β : Type} {f g : α → Option β} : ∀ {l : List α}, (∀ x ∈ l, f x = g x) → l.filterMap f = l.filterMap g
  | [], _ => rfl
  | x :: l, h => by
    rw [List.filterMap_cons, List.filterMap_cons, h x List.mem_cons_self, fm_congr (l := l) fun y hy => h y (List.mem_cons_of_mem _ hy)]
theorem pick_rev (xs : Array Value) : ((List.range xs.size).filterMap fun (k : Nat) => xs[(((xs.size : Int) - 1) + (k : Int) * (-1)).toNat]?).toArray = xs.toList.reverse.toArray := by
  have z := PySem.W.krv_pick xs
  rw [← z]
  unfold slicePick
  rw [PySem.W.krv_bounds]
  show _ = ((sliceRange ((xs.size : Int) - 1) (-1) (-1)).filterMap (xs[·]?)).toArray
  rw [PySem.W.krv_sliceRange, List.filterMap_map]
  congr 1
  refine fm_congr fun k hk => ?_
  have := List.mem_range.mp hk
  have e : (((xs.size : Int) - 1) + (k : Int) * (-1)).toNat = xs.size - 1 - k := by omega
  show xs[_]? = xs[xs.size - 1 - k]?
  rw [e]
theorem getItem_tuple_rev {t sl : Addr} {tk : Tok} {items : Array Value} {Q : Value → Shared → Prop} (ht : IsTup s.heap t items) (hs : s.heap.IsSliceOf sl .none .none (.int (-1) tk))
    (h : Q (.ref s.heap.objs.size) { s with heap := s.heap.push { cls := .type "tuple", data := .seq items.toList.reverse.toArray } }) (hsz : items.size ≤ sizeLine) : wpAny (model prog w) A (getItem (.ref t) (.ref sl)) Q E s := by
  have htake : sizeOk (.seq items.toList.reverse.toArray) := by
    show items.toList.reverse.toArray.size ≤ sizeLine
    rw [List.size_toArray, List.length_reverse, Array.length_toList]
    exact hsz
  obtain ⟨os, hos, hcs, hds⟩ := id hs
  have hTs : s.TypeIs (.ref sl) "slice" := ⟨os, hos, hcs⟩
  unfold getItem
  try with_reducible refine wpAny_holding ?_
  first | refine wpAny_bind (wpAny_pure ?_) | skip
  refine wpAny_bind (wpAny_sequenceKey ht.typeIs (by decide) ?_)
  refine wpAny_bind (wpAny_callSpecial?_slot (name := Str.ofString "__getitem__") ht.typeIs PyProof.Rows.slot_tuple_getitem
    (wpAny_call_entry PyProof.Rows.slot_tuple_getitem ht.typeIs entry_tuple_getitem ?_ (args_tuple_getitem _ _)))
  show wpAny _ _ (Builtin.Tuple.tupleItemsOf (.ref t) >>= _) _ _ s
  refine wpAny_bind (tupleItemsOf_ ht ?_)
  refine wpAny_bind (wpAny_typeOf hTs ?_)
  rw [if_pos (by decide)]
  refine wpAny_bind (applied_rev hs ?_)
  have hno : ¬ (((items.size : Int) - 1 == 0 && (-1 : Int) == 1 && items.size == items.size) = true) := by
    intro q
    rw [Bool.and_eq_true, Bool.and_eq_true] at q
    exact absurd q.1.2 (by decide)
  show wpAny _ _ (if ((items.size : Int) - 1 == 0 && (-1 : Int) == 1 && items.size == items.size) = true then _ else _) _ _ s
  rw [if_neg hno, pick_rev]
  first
    | exact wpAny_bind (m := Builtin.Tuple.tupleExact _) (wpAny_newObj_type (wpAny_pure ⟨_, rfl, wpAny_pure h⟩) htake)
    | exact wpAny_bind (m := Builtin.Tuple.tupleExact _) (wpAny_newObj_type (wpAny_bind (wpAny_pure (wpAny_pure ⟨_, rfl, wpAny_pure h⟩))) htake)
    | exact wpAny_bind (wpAny_bind (m := Builtin.Tuple.tupleExact _) (wpAny_newObj_type (wpAny_pure (wpAny_pure ⟨_, rfl, wpAny_pure h⟩)) htake))
    | exact wpAny_bind (wpAny_bind (m := Builtin.Tuple.tupleExact _) (wpAny_newObj_type (wpAny_pure ⟨_, rfl, wpAny_pure h⟩) htake))
end
def tRevT (K : PySem.W.Frag) (te : TE) : TE := fun σ H Q => te σ H fun x H1 => ∃ a xs, x = .ref a ∧ SqT K H1 a xs ∧ ∀ p, H1 p = none → Q (.ref p) (upd H1 p (.tup xs.reverse))
theorem pe_revT {X : Cx} {e m : Expr} {te : TE} {p2 pos : Pos} (he : PE X e te) (hm : PE X m (tC (.int (-1)))) : PE X (.Subscript e (.Slice none none (some m) p2) pos) (tRevT X.K te) := by
  refine ⟨fun pins s σ H Q I h => ?_⟩
  refine Subscript_ (thn (he.run pins s σ H _ I h) fun v s1 ⟨x, H1, I1, r1, q1⟩ => ?_)
  refine wpAny_Slice (wpAny_evalPart_none (wpAny_evalPart_none (wpAny_evalPart_some (thn (hm.run pins s1 σ H1 (fun y H2 => y = .int (-1) ∧ H2 = H1) I1 ⟨rfl, rfl⟩) fun vm s3 ⟨y, H3, I3, r3, ey, eH⟩ => ?_))))
  subst ey eH
  obtain ⟨t, rfl⟩ := r3
  obtain ⟨a, xs, rfl, hx, q⟩ := q1
  cases r1
  have I4 : L2.Inv X pins σ H3 { s3 with heap := s3.heap.push { cls := .type "slice", data := .fields #[.none, .none, .int (-1) t] } } := I3.kept (t' := s3.toks) fun b ob q => Heap.get?_push_of_some _ q
  obtain ⟨its, r, ht, hz⟩ := I4.tuple hx
  have hlen := r.length
  show wpAny (model X.prog X.w) X.A (subscriptTail e (.Slice none none (some m) p2) (.ref a) (.ref s3.heap.objs.size)) (EP X pins σ Q) X.xe { s3 with heap := s3.heap.push { cls := .type "slice", data := .fields #[.none, .none, .int (-1) t] } }
  refine tail_any (ops := [.ref a, .ref s3.heap.objs.size]) ht.typeIs PyProof.Rows.slot_tuple_getitem.lookup ?_ (by with_unfolding_all rfl)
  refine getItem_tuple_rev ht (Heap.IsSliceOf.new ..) ?_ (by rw [List.size_toArray] <;> omega)
  refine ⟨.ref _, _, I4.laid (t' := s3.toks) (o := .tup xs.reverse) (fun b ob q => Heap.get?_push_of_some _ q) (Nat.le_refl _) ?_, rfl, q _ (I4.hok.fresh (Nat.le_refl _))⟩
  exact ⟨by rw [List.length_reverse]; exact hz, its.reverse, r.reverse, ⟨_, Heap.get?_push_size _ rfl, rfl, _, rfl⟩⟩
theorem pe_revTK {X : Cx} {e m : Expr} {te : TE} {p2 pos : Pos} (K : PySem.W.Frag) (he : PE X e te) (hm : PE X m (tC (.int (-1)))) (h : X.K = K := by rfl) : PE X (.Subscript e (.Slice none none (some m) p2) pos) (tRevT K te) := h ▸ pe_revT he hm
/-! ### == of data of up to 190 levels -/
def rEqL (K : PySem.W.Frag) : R2 := fun x y H Q => ∃ d e, Dp K H x d ∧ Dp K H y e ∧ d.canLay0 = true ∧ e.canLay0 = true ∧ d.depth ≤ 190 ∧ Q (.bl (PyData.eqv d e)) H
theorem op_eqL {X : Cx} (K : PySem.W.Frag) (hu : X.A.units + 190 < cLine) (hK : X.K = K := by rfl) : OpR X (compareOp .Eq) (rEqL K) := by
  subst hK
  intro pins s σ H x y v u Q I rx ry h
  obtain ⟨d, e, hd, he, sd, se, dp, q⟩ := h
  obtain ⟨as, r1⟩ := Dp.reads I d x v hd rx
  obtain ⟨bs, r2⟩ := Dp.reads I e y u he ry
  exact SeqAt.compareEq_reads r1 r2 sd se (by have := Nat.min_le_left d.depth e.depth; omega) ⟨.bl _, H, I, rfl, q⟩
/-! ### a promise that knows how large the heap was -/
structure FnY (P : Program) (w : World) (K : PySem.W.Frag) (mg : Str → Option Value) (base : Heap) (CX : CXT) (k : Nat) (f : Addr) (fd : FuncData) (ps : List Str) (sp : Nat → Sp) : Prop where
  len : ∀ n vs H Q E, sp n vs H Q E → vs.length = ps.length
  run : ∀ (A : Around) (outer : List Env) (s : Shared) (H : Hp) (args : Args) (us : List Value) (vs : List V) (Q : VK) (E : XK), Room k A → Env0 P w K mg base A outer s H → BindsTo s fd args (ps.zip us) → Vals vs us → sp s.heap.objs.size vs H Q E →
    codeAny (model P w) A (.call (.ref f) args) (CR CX outer P w H s Q E) s
section
variable {P : Program} {w : World} {K : PySem.W.Frag} {mg : Str → Option Value} {base : Heap} {CX : CXT}
theorem fnY_of {x qual : Str} {st : Stmt} {f : Addr} {fd : FuncData} {N ps : List Str} {k : Nat} {sp : Nat → Sp} (F : Fun K x qual st f fd) (S : FnScope N ps (defScope st)) (len : ∀ n vs H Q E, sp n vs H Q E → vs.length = ps.length)
    (hbody : ∀ (cdv : Value) (A : Around) (outer : List Env) (s : Shared) (H : Hp) (vs : List V) (Q : VK) (E : XK), Room k (A.deeper (envOfC qual (defScope st) s.heap.objs.size f cdv)) → sp s.heap.objs.size vs H Q E →
      ∃ t, PSs (cxOf CX P w K mg base N qual (defScope st) f cdv A outer s H E) (defBody st) t ∧ t { nx := fun _ H' => Q .non H', rt := Q } (L2.start N vs) H) : FnY P w K mg base CX (k + 1) f fd ps sp := by
  obtain ⟨oc, od, kV, doc, pm, an, cdv, ct, osl, rfl, lk, hcd⟩ := F.ex
  refine ⟨len, fun A outer s H args us vs Q E hr e0 hb r hsp => ?_⟩
  have hl := len _ _ _ _ _ hsp
  have KX : K.In s.heap := e0.mod.kin.keeps fun b o e => (e0.bs b o e).1
  have lim : s.heap.NoLimit := e0.mod.nolimit.keeps fun b o e => (e0.bs b o e).1
  have hkind : ∀ y ∈ ps.zip us, (defScope st).names.lookup y.1 = some .local ∨ ((defScope st).names.lookup y.1 = some .cell ∧ ((cellsFrom (s.heap.objs.size + 1) (defScope st).names []).lookup y.1).isSome = true) := fun ⟨n, v⟩ hy => by
    rcases S.par n (List.of_mem_zip hy).1 with q | q
    · exact .inl q
    · exact .inr ⟨q, PySem.W.cellsFrom_some _ _ _ (.inl q)⟩
  refine codeAny_call_function hr.depth (KX _ _ lk) rfl S.co S.gen rfl (PySem.W.codeRec_of KX hcd) (hb _ _ _ _ ?_)
  refine wpAny_newFunctionEnv_cells S.kind hkind fun env he s1 x => ?_
  subst he
  refine ⟨lim.keeps x.toInCall.keep, codeAny_func ?_⟩
  obtain ⟨t, ht, hq⟩ := hbody cdv A outer s H vs Q E (hr.deeper _) hsp
  have I : Inv (cxOf CX P w K mg base N qual (defScope st) f cdv A outer s H E) [] (L2.start N vs) H s1 := inv_start S hr.hd e0 hl r x
  refine wpAny_mono (ht.run [] s1 (L2.start N vs) H _ I hq) (fun fl s' hs => ?_) fun e s' hs => hs
  cases fl with
  | ret u =>
    obtain ⟨v, σ', H', J, rv, q⟩ := hs
    exact ⟨v, H', J.os, J.bare, J.base, J.hok, rv, q⟩
  | next =>
    obtain ⟨σ', H', J, q⟩ := hs
    exact ⟨V.non, H', J.os, J.bare, J.base, J.hok, rfl, q⟩
  | brk =>
    obtain ⟨_, _, _, q⟩ := hs
    exact False.elim q
  | cont =>
    obtain ⟨_, _, _, q⟩ := hs
    exact False.elim q
theorem okY {x qual : Str} {st : Stmt} {f : Addr} {fd : FuncData} {N ps : List Str} {k : Nat} {sp : Nat → Sp} (F : Fun K x qual st f fd) (S : FnScope N ps (defScope st)) (len : ∀ n vs H Q E, sp n vs H Q E → vs.length = ps.length)
    (hbody : ∀ (cdv : Value) (A : Around) (outer : List Env) (s : Shared) (H : Hp) (vs : List V) (Q : VK) (E : XK), Room k (A.deeper (envOfC qual (defScope st) s.heap.objs.size f cdv)) → sp s.heap.objs.size vs H Q E →
      ∃ t, PSs (cxOf CX0 P w K mg base N qual (defScope st) f cdv A outer s H E).nox (defBody st) t ∧ t { nx := fun _ H' => Q .non H', rt := Q } (L2.start N vs) H) : FnY P w K mg base CX0 (k + 1) f fd ps sp :=
  fnY_of F S len fun cdv A outer s H vs Q E hr hsp => let ⟨t, h, q⟩ := hbody cdv A outer s H vs Q E hr hsp; ⟨t, h.nox, q⟩
end
/-! ### for x in o, o an object whose own __iter__ hands on iter(l) -/
theorem dropH_upd {H : Hp} {a : Addr} {o : HO} (h : H a = none) : ItX.dropH (upd H a o) a = H := by
  funext b
  by_cases e : b = a
  · rw [e, ItX.dropH_same, h]
  · rw [ItX.dropH_ne e, upd_ne e]
def iOwnL (K : PySem.W.Frag) (C : Addr) (sp : Nat → Sp) (E : XK) (te : TE) : TI := fun σ H R => te σ H fun x H1 => ∃ a dx fs, x = .ref a ∧ H1 a = some (.ins C dx fs) ∧
  ∀ n, sp n [.ref a] H1 (fun v H2 => ∃ (it l : Addr), v = .ref it ∧ n ≤ it ∧ H2 it = some (ItO l it 0) ∧ R (Itl K l) (ItX.dropH H2 it)) E
theorem pi_ownL {X : Cx} {CX : CXT} {C f : Addr} {fd : FuncData} {ps : List Str} {sp : Nat → Sp} {E : XK} {n : Nat} {tg e : Expr} {te : TE} (he : PE X e te) (F : FnY X.prog X.w X.K X.mg X.base CX n f fd ps sp)
    (hs : PySem.W.findIn X.K (.ref C) "__iter__" = some (some (.ref f))) (hfn : PySem.W.isFn X.K (.ref f) = true) (hb : Binds X.K fd ps []) (hx : Passes CX X E) (hr : Room n X.A) : PI X tg e (iOwnL X.K C sp E te) := by
  refine ⟨fun pins s σ H R I h => ?_⟩
  refine thn (he.run pins s σ H _ I h) fun u s1 ⟨x, H1, I1, r1, a, dx, fs, ex, ha, hsp0⟩ => ?_
  subst ex
  cases r1
  have hsp := hsp0 s1.heap.objs.size
  obtain ⟨mA, J, _⟩ := ins_get I1.hok ha
  obtain ⟨od, J, _⟩ := J.look
  obtain ⟨m0, hF⟩ := I1.fr
  refine PySem.W.owit_iter hF I1.ok.mod.kin J hs hfn ?_
  have hl := F.len _ _ _ _ _ hsp
  refine wpAny_call (codeAny_mono (F.run X.A X.stack s1 H1 ⟨[.ref a], []⟩ [.ref a] [.ref a] _ E hr I1.env0 (by
    have := hb s1 [.ref a] I1.kIn (by simpa using hl)
    simpa using this) (.cons rfl .nil) hsp) fun r s' hq => ?_)
  cases r with
  | error e => exact hx pins σ _ _ e s' I1 hq
  | ok fl =>
    cases fl with
    | next => exact False.elim hq
    | brk => exact False.elim hq
    | cont => exact False.elim hq
    | ret u =>
      obtain ⟨v, H', I', rv, it, l, ev, young, hit, hR⟩ := I1.after hq
      subst ev
      cases rv
      have eo := itO_get I' hit
      have st : s'.heap.IsListIter it l 0 := ⟨_, eo, rfl, rfl⟩
      show wpAny _ _ (specialOf (.ref it) "__next__") _ _ _
      refine wpAny_specialOf st.typeIs slot_listiter_next.lookup ?_
      have hi' := hit
      unfold ItO at hi'
      refine ⟨it, [it], _, _, ItX.dropH H' it, rfl, ItX.inv_drop I' hi', turn_list l it, st, fun b hb => ?_, hR⟩
      have e : b = it := by simpa using hb
      rw [e]
      exact ItX.inv_fp I' hit (Nat.le_trans I1.sz young)
theorem pi_ownLK {X : Cx} {CX : CXT} {C f : Addr} {fd : FuncData} {ps : List Str} {sp : Nat → Sp} {E : XK} {n : Nat} {tg e : Expr} {te : TE} (K : PySem.W.Frag) (he : PE X e te) (F : FnY X.prog X.w X.K X.mg X.base CX n f fd ps sp)
    (hs : PySem.W.findIn X.K (.ref C) "__iter__" = some (some (.ref f))) (hfn : PySem.W.isFn X.K (.ref f) = true) (hb : Binds X.K fd ps []) (hx : Passes CX X E) (hr : Room n X.A) (h : X.K = K := by rfl) : PI X tg e (iOwnL K C sp E te) := h ▸ pi_ownL he F hs hfn hb hx hr
/-! ### list(o) -/
theorem next_lst_end {P : Program} {w : World} {A : Around} {E : Value → Shared → Prop} {s : Shared} {it t : Addr} {i : Nat} {items : Array Value} {Q : Option Value → Shared → Prop} (hh : A.handled = none)
    (hit : s.heap.IsListIter it t i) (ht : s.heap.IsList t items) (hx : items[i]? = none)
    (hQ : ∀ h', Heap.ExtBut it s.heap h' → (∃ o, h'.get? it = some o) → Q none { s with heap := h' }) : wpAny (model P w) A (pyNext (.ref it)) Q E s := by
  obtain ⟨o, ho, hc, hd⟩ := id hit
  obtain ⟨ol, hol, _, nl, hdl⟩ := ht
  unfold pyNext
  refine wpAny_bind (wpAny_attempt (wpAny_callSpecial?_slot (name := Str.ofString "__next__") hit.typeIs slot_listiter_next (wpAny_call_entry slot_listiter_next hit.typeIs entry_listiter_next ?_ (args_listiter_next _))))
  show wpAny _ _ (field (.ref it) 0 >>= _) _ _ s
  refine wpAny_bind (wpAny_field ho hd (x := .ref t) rfl (PySem.W.KFB.if_not rfl ?_))
  show wpAny _ _ (field (.ref it) 1 >>= _) _ _ s
  refine wpAny_bind (wpAny_field ho hd (x := .int i 0) rfl ?_)
  show wpAny _ _ (seqItems? (.ref t) >>= _) _ _ s
  refine wpAny_bind (wpAny_seqItems hol hdl ?_)
  simp only [Int.toNat_natCast, hx]
  refine wpAny_bind (wpAny_rule (wpAny_bind (wpAny_setField ho hd (by simp) ?_)))
  show wpAny _ _ (newExc (.type "StopIteration") [] >>= _) _ _ _
  refine wpAny_bind ?_
  simp only [newExc, newTuple]
  refine wpAny_bind (wpAny_newObj_type ?_ (by size_fits))
  refine wpAny_bind (m := firstArgMember _ _) (wpAny_of_eq (a := Value.none) (by first | rfl | (simp only [firstArgMember]; rfl)) ?_)
  refine wpAny_newObj_type ?_ (by size_fits)
  simp only [raiseNew]
  refine wpAny_bind (wpAny_handled ?_)
  first | rw [show A.in1.handled = none from hh] | rw [hh]
  refine wpAny_bind (wpAny_pure (wpAny_throw ?_))
  refine wpAny_bind (wpAny_isInstance (T := "StopIteration") (b := true) ⟨_, Heap.get?_push_size _ rfl, rfl⟩ isSubtype_stop ?_)
  exact wpAny_pure (hQ _ (((Heap.SameBut.update ..).extBut.push _).push _) ⟨_, Heap.get?_push_of_some _ (Heap.get?_push_of_some _ (Heap.get?_update_self _ ho (Obj.isFreed_of_fields (Obj.data_mapFields hd _))))⟩)
def ItL (l it : Addr) (i : Nat) : HO := .ext fun h => h.IsListIter it l i
theorem itL_ok {P : Program} {w : World} {H : Hp} {h : Heap} {t it : Addr} {i : Nat} (e : h.IsListIter it t i) : ObjOk P w H h it (ItL t it i) := by
  obtain ⟨o, ho, r⟩ := id e
  exact ⟨e, ⟨_, ho⟩, fun g1 g2 q k => q.at fun o e => k o e⟩
section
variable {X : Cx} {pins : List (Addr × Obj)} {σ : L2.St} {H : Hp} {s : Shared}
theorem itL_get {t it : Addr} {i : Nat} (I : Inv X pins σ H s) (e : H it = some (ItL t it i)) : s.heap.IsListIter it t i := (I.hok it _ e).1
/-- the loop that fills the list at q -/
theorem loop_lst {A1 : Around} {Rs : Result → Shared → Prop} {q it t : Addr} {zs : List V} (hd : A1.in1.handled = none) (hne : q ≠ it) :
    ∀ (k i : Nat) (H : Hp) (s : Shared), zs.length - i = k → i ≤ zs.length → Inv X pins σ H s → H it = some (ItL t it i) → it ≠ t → q ≠ t → H t = some (.lst zs) → H q = some (.lst (zs.take i)) →
      (∀ s', Inv X pins σ (upd (upd H it (ItTE it)) q (.lst zs)) s' → Rs (.ok (.ret .none)) s') → codeAny (model X.prog X.w) A1 (.builtin "list.extend.loop" ⟨[.ref q, .ref it, .none], []⟩) Rs s := by
  intro k
  induction k with
  | zero =>
    intro i H s hk hi I hit nit nqt ht hq hR
    obtain ⟨its, rv, pl, hz⟩ := I.list (SqL.of ht)
    have hin : zs.length = its.length := rv.length
    have mu : Mut (H it) := by rw [hit]; exact True.intro
    refine codeAny_builtin PySem.F.entry_extend_loop ?_
    rw [Around.under_plainId PySem.F.plain_extend_loop _]
    show wpAny _ A1.in1 (pyNext (.ref it) >>= _) _ _ s
    have ei : i = zs.length := by omega
    refine wpAny_bind (next_lst_end hd (itL_get I hit) pl.isList (by rw [List.getElem?_toArray]; exact List.getElem?_eq_none (by omega)) fun h' eb ⟨o, ho⟩ => wpAny_pure ?_)
    have I2 : Inv X pins σ (upd H it (ItTE it)) { s with heap := h' } := I.write (x := it) (e := it) (t' := s.toks) mu (.inl rfl) (fun b o nb z => eb b o nb z) ⟨_, ho⟩ (itTE_ok ho)
    refine hR _ ?_
    have e : upd (upd H it (ItTE it)) q (.lst zs) = upd H it (ItTE it) := by
      funext b
      by_cases hb : b = q
      · rw [hb, upd_same, upd_ne hne, hq, ei, List.take_length]
      · rw [upd_ne hb]
    rw [e]
    exact I2
  | succ k ih =>
    intro i H s hk hi I hit nit nqt ht hq hR
    obtain ⟨its, rv, pl, hz⟩ := I.list (SqL.of ht)
    have hin : zs.length = its.length := rv.length
    have mu : Mut (H it) := by rw [hit]; exact True.intro
    have hlt : i < zs.length := by omega
    have hzi := List.getElem?_eq_getElem hlt
    obtain ⟨u, hu, ru⟩ := rv.get hzi
    refine codeAny_builtin PySem.F.entry_extend_loop ?_
    rw [Around.under_plainId PySem.F.plain_extend_loop _]
    show wpAny _ A1.in1 (pyNext (.ref it) >>= _) _ _ s
    refine wpAny_bind (wpAny_pyNext_list_item (itL_get I hit) pl.isList (by rw [List.getElem?_toArray]; exact hu) fun h' hit' sb => ?_)
    obtain ⟨o, ho, _⟩ := id hit'
    have I2 : Inv X pins σ (upd H it (ItL t it (i + 1))) { s with heap := h' } := I.write (x := it) (e := it) (t' := s.toks) mu (.inl rfl) (fun b o nb z => (sb.2 b nb).trans z) ⟨_, ho⟩ (itL_ok hit')
    have hq2 : upd H it (ItL t it (i + 1)) q = some (.lst (zs.take i)) := by rw [upd_ne hne]; exact hq
    show wpAny _ A1.in1 (updateSeq q (·.push u) >>= _) _ _ _
    obtain ⟨z, its2, c, r2, hl, e⟩ := I2.lstM hq2
    have l2 : its2.length ≤ 16777215 := by
      rw [← hl, List.length_take]
      have := hz
      rw [sizeLine_eq] at this
      omega
    refine wpAny_bind (wpAny_updateSeq e rfl (wpAny_pure ⟨plainId_quiet PySem.F.plain_extend_loop _, ?_⟩) (by rw [List.size_toArray, sizeLine_eq]; omega) (by show (its2.toArray.push u).size ≤ sizeLine + 1; rw [Array.size_push, List.size_toArray, sizeLine_eq]; omega))
    have I3 := I2.lset (f := (·.push u)) (its' := its2 ++ [u]) (ys := zs.take i ++ [zs[i]]) (t' := s.toks) hq2 e (by simp) (r2.append (.cons ru .nil)) (by rw [List.length_append, List.length_singleton, List.length_take, sizeLine_eq]; rw [sizeLine_eq] at hz; omega)
    refine ih (i + 1) _ _ (by omega) (by omega) I3 ?_ nit nqt ?_ ?_ fun s' I4 => hR s' ?_
    · rw [upd_ne (Ne.symm hne), upd_same]
    · rw [upd_ne (Ne.symm nqt), upd_ne (Ne.symm nit)]
      exact ht
    · rw [upd_same, take_snoc hzi]
    · have e4 : upd (upd (upd (upd H it (ItL t it (i + 1))) q (.lst (zs.take i ++ [zs[i]]))) it (ItTE it)) q (.lst zs) = upd (upd H it (ItTE it)) q (.lst zs) := by
        funext b
        by_cases hb : b = q
        · rw [hb, upd_same, upd_same]
        · rw [upd_ne hb, upd_ne hb]
          by_cases hb2 : b = it
          · rw [hb2, upd_same, upd_same]
          · rw [upd_ne hb2, upd_ne hb2, upd_ne hb, upd_ne hb2]
      rw [← e4]
      exact I4
def rListItL (C : Addr) (sp : Nat → Sp) (E : XK) : List V → Hp → VK → Prop := fun xs H Q => ∃ a dx fs, xs = [.ref a] ∧ H a = some (.ins C dx fs) ∧
  ∀ q n, H q = none → sp n [.ref a] (upd H q (.lst [])) (fun v H1 => ∃ (it t : Addr) (zs : List V), v = .ref it ∧ H1 it = some (ItO t it 0) ∧ it ≠ t ∧ q ≠ t ∧ H1 t = some (.lst zs) ∧ H1 q = some (.lst []) ∧ (∃ dx' fs', H1 a = some (.ins C dx' fs')) ∧ Q (.ref q) (upd (upd H1 it (ItTE it)) q (.lst zs))) E
theorem call_listItL {C f : Addr} {fd : FuncData} {ps : List Str} {sp : Nat → Sp} {E : XK} {n : Nat} {CX : CXT} (hs : PySem.W.findIn X.K (.ref C) "__iter__" = some (some (.ref f))) (hfn : PySem.W.isFn X.K (.ref f) = true) (n1 : PySem.W.findIn X.K (.ref C) "__len__" = some none) (n2 : PySem.W.findIn X.K (.ref C) "__length_hint__" = some none)
    (F : FnY X.prog X.w X.K X.mg X.base CX n f fd ps sp) (hb : Binds X.K fd ps []) (hx : Passes CX X E) (hr : Room (n + 2) X.A) : CallR X (.type "list") (rListItL C sp E) := by
  intro pins s σ H xs us Q I rv h
  obtain ⟨a, dx, fs, rfl, ha, hq⟩ := h
  obtain ⟨u, rfl, ru⟩ := rv.one
  cases ru
  have sb : Sub X n X.A.in1.in1 := (Sub.in1 (Sub.in1 (⟨hr, rfl⟩ : Sub X (n + 2) X.A)))
  refine callType_codes (Q₁ := fun obj s₁ => obj = .ref s.heap.objs.size ∧ s₁ = { s with heap := s.heap.push { cls := .type "list", data := .seq #[] } }) PySem.F.called_list (PySem.F.typeCall_list_1 _) PySem.F.entry_list_init
    (code_list_new _ ⟨rfl, rfl⟩) fun obj s₁ h₁ => ?_
  obtain ⟨rfl, rfl⟩ := h₁
  have hS : (s.heap.push { cls := .type "list", data := .seq #[] }).get? s.heap.objs.size = some { cls := .type "list", data := .seq #[] } := Heap.get?_push_size _ rfl
  refine ⟨⟨_, hS, rfl⟩, PySem.F.args_list_init_2 _ _, ?_⟩
  have fr : H s.heap.objs.size = none := I.hok.fresh (Nat.le_refl _)
  have hsp := fun n => hq _ n fr
  have I1 : Inv X pins σ (upd H s.heap.objs.size (.lst [])) { s with heap := s.heap.push { cls := .type "list", data := .seq #[] } } := I.lnew (its := []) (t' := s.toks) .nil (Nat.zero_le _)
  show wpAny _ _ (do let old ← Builtin.List.listItems (.ref s.heap.objs.size); Builtin.List.listUpdate (.ref s.heap.objs.size) (fun _ => #[]); letGo old.toList.reverse; Builtin.List.listExtendWith (.ref s.heap.objs.size) (.ref a) .none) _ _ _
  refine wpAny_bind ?_
  unfold Builtin.List.listItems
  refine wpAny_bind (wpAny_seqItems hS rfl (wpAny_pure ?_))
  show wpAny _ _ (updateSeq s.heap.objs.size (fun _ => #[]) >>= fun _ => letGo (#[] : Array Value).toList.reverse >>= fun _ => Builtin.List.listExtendWith (.ref s.heap.objs.size) (.ref a) .none) _ _ _
  refine wpAny_bind (wpAny_updateSeq hS rfl ?_)
  have I2 := I1.lset (f := fun _ => #[]) (its := []) (its' := []) (ys := []) (t' := s.toks) upd_same hS rfl .nil (Nat.zero_le _)
  rw [upd_upd] at I2
  refine wpAny_bind (wpAny_letGo ?_)
  have ha2 : upd H s.heap.objs.size (.lst []) a = some (.ins C dx fs) := by rw [upd_ne (ne_of_none ha fr)]; exact ha
  have hne : s.heap.objs.size ≠ a := Ne.symm (ne_of_none ha fr)
  generalize hH2 : upd H s.heap.objs.size (.lst []) = H2 at *
  generalize s.heap.objs.size = q at *
  obtain ⟨mA, J, _⟩ := ins_get I2.hok ha2
  obtain ⟨od, J, _⟩ := J.look
  obtain ⟨m0, hF⟩ := I2.fr
  unfold Builtin.List.listExtendWith
  refine wpAny_bind (J.type.here ?_)
  have h1 : Builtin.List.listSameRef (.ref q) (.ref a) = false := by simp [Builtin.List.listSameRef, hne]
  have h2 : (Value.ref C == Value.type "list") = false := rfl
  have h3 : (Value.ref C == Value.type "tuple") = false := rfl
  simp only [h1, h2, h3, Bool.or_false, Bool.false_eq_true, if_false]
  refine wpAny_bind (PySem.W.owit_iter hF I2.ok.mod.kin J hs hfn ?_)
  have e0 : ∀ {s : Shared} {H : Hp}, Inv X pins σ H s → Env0 X.prog X.w X.K X.mg X.base X.A.in1.in1 X.stack s H := fun {s H} I => by
    have e := I.env0
    exact ⟨by rw [sb.fr]; exact e.frames, e.mod, e.bs, e.bsz, e.funs, e.frf, e.hok, e.bare⟩
  have hl := F.len _ _ _ _ _ (hsp 0)
  have r2 : Vals [V.ref a] [Value.ref a] := .cons rfl .nil
  refine wpAny_call (codeAny_mono (F.run X.A.in1.in1 X.stack _ _ ⟨[.ref a], []⟩ [.ref a] [.ref a] _ E sb.room (e0 I2) (by
    have := hb _ [.ref a] I2.kIn (by simpa using hl)
    simpa using this) r2 (hsp _)) fun r s' hq' => ?_)
  cases r with
  | error e => exact hx pins σ _ _ e s' I2 hq'
  | ok fl =>
    cases fl with
    | next => exact False.elim hq'
    | brk => exact False.elim hq'
    | cont => exact False.elim hq'
    | ret u =>
      obtain ⟨v, H', I', rv, it, t, zs, ev, hit, nit, nqt, ht, hqq, ⟨dx', fs', ha'⟩, hQ⟩ := I2.after hq'
      subst ev
      cases rv
      have stt : ∀ s'', Inv X pins σ H' s'' → s''.heap.IsListIter it t 0 := fun s'' I'' => ⟨_, itO_get I'' hit, rfl, rfl⟩
      have hT : s'.TypeIs (.ref it) "list_iterator" := (stt s' I').typeIs
      have hqi : q ≠ it := fun z => by
        rw [z, hit] at hqq
        exact (nomatch hqq)
      show wpAny _ _ (specialOf (.ref it) "__next__") _ _ _
      refine wpAny_specialOf hT slot_listiter_next.lookup ?_
      obtain ⟨mA', J', _⟩ := ins_get I'.hok ha'
      obtain ⟨od', J', _⟩ := J'.look
      refine wpAny_bind (wpAny_holding (hint_own n1 n2 I'.kIn J' ?_))
      have go : ∀ s'', Inv X pins σ H' s'' → codeAny (model X.prog X.w) X.A.in1 (.builtin "list.extend.loop" ⟨[.ref q, .ref it, .none], []⟩) (wants (fun r s₂ => r = .none ∧ EP X pins σ Q (.ref q) s₂) X.xe) s'' := fun s'' I'' =>
by
        have mu : Mut (H' it) := by rw [hit]; exact True.intro
        obtain ⟨oi, ei, _⟩ := id (stt s'' I'')
        have I5 : Inv X pins σ (upd H' it (ItL t it 0)) s'' := I''.write (x := it) (e := it) (t' := s''.toks) mu (.inl rfl) (fun b o nb z => z) ⟨_, ei⟩ (itL_ok (stt s'' I''))
        refine loop_lst (t := t) (zs := zs) sb.room.hd hqi zs.length 0 _ s'' (by simp) (Nat.zero_le _) I5 upd_same nit nqt (by rw [upd_ne (Ne.symm nit)]; exact ht) (by rw [upd_ne hqi, hqq]; rfl) fun s3 I3 => ?_
        rw [upd_upd] at I3
        exact ⟨rfl, .ref q, _, I3, rfl, hQ⟩
      obtain ⟨z, its, k, r3, hl3, e3⟩ := I'.lstM hqq
      cases r3
      refine wpAny_ite_split (fun _ => ?_) (fun _ => wpAny_pure ⟨plainId_quiet PySem.F.plain_extend_loop _, go s' I'⟩)
      refine wpAny_bind (wpAny_rule ?_)
      refine wpAny_bind ?_
      show wpAny _ _ (updateSeq q (·.push .none) >>= fun _ => updateSeq q (·.pop)) _ _ _
      refine wpAny_bind (wpAny_updateSeq e3 rfl ?_)
      have I3 := I'.lset (f := (·.push Value.none)) (its' := [Value.none]) (ys := [.non]) (t' := s'.toks) hqq e3 (by simp) (.cons rfl .nil) (by rw [List.length_singleton, sizeLine_eq]; decide)
      obtain ⟨z4, its4, k4, r4, hl4, e4⟩ := I3.lstM upd_same
      obtain ⟨u4, rfl, ru4⟩ := r4.one
      refine wpAny_updateSeq e4 rfl ?_ (by show 1 ≤ sizeLine; rw [sizeLine_eq]; decide) (by show 0 ≤ sizeLine + 1; exact Nat.zero_le _)
      have I4 := I3.lset (f := (·.pop)) (its := [u4]) (its' := []) (ys := []) (t' := s'.toks) upd_same e4 (by rfl) .nil (Nat.zero_le _)
      rw [upd_upd] at I4
      have hH : upd H' q (.lst []) = H' := by
        funext b
        by_cases hb : b = q
        · rw [hb, upd_same, hqq]
        · rw [upd_ne hb]
      rw [hH] at I4
      exact wpAny_pure ⟨plainId_quiet PySem.F.plain_extend_loop _, go _ I4⟩
end
theorem u190 {k : Nat} {A : Around} (r : Room k A) : A.units + 190 < cLine := by have := r.un; omega
end XL
set_option Elab.async false
set_option linter.all false
set_option maxRecDepth 100000
set_option maxHeartbeats 4000000
/-! XFoc: o.f = v by an own property's setter; C(..) within a try; a call that raises within a def that lets it out; a written tuple. -/
namespace XL
open PySem PySem.Spec PyProof.Rows L2
structure PSet (K : PySem.W.Frag) (C : Addr) (f : Str) (p g : Addr) : Prop where
  tk : PySem.W.takerIn K C f = some (some (.ref p))
  ty : PySem.W.typeIn K (.ref p) = some (.type "property")
  rec_ : ∃ a rest, PySem.W.recIn K p "property" = some (a :: .ref g :: rest)
def sPSet (C : Addr) (sp : Sp) (E : XK) (ta tv : TE) : TS := fun D σ H => tv σ H fun y H1 => ta σ H1 fun x H2 => ∃ a dx fs, x = .ref a ∧ H2 a = some (.ins C dx fs) ∧ sp [.ref a, y] H2 (fun _ H3 => D.nx σ H3) E
section
variable {X : Cx} {CX : CXT} {k : Nat} {C p g : Addr} {f : Str} {fd : FuncData} {ps : List Str} {sp : Sp} {E : XK} {o value : Expr} {pos pos' : Pos} {ta tv : TE}
theorem Room.in2 {k : Nat} {A : Around} (r : Room (k + 2) A) : Room k A.in1.in1 := (Room.in1 (Room.in1 r))
/-- o.f = v, f a property with a setter -/
theorem ps_pset (ha : PE X o ta) (hv : PE X value tv) (c : Cls X.K C) (hp : PSet X.K C f p g) (F : FnOk X.prog X.w X.K X.mg X.base CX k g fd ps sp) (hr : Room (k + 2) X.A) (hb : Binds X.K fd ps []) (hx : Passes CX X E)
    (hs : swapsWith value (some (.Attribute o f pos')) pos.line X.env = pure false) : PS X (.Assign [.Attribute o f pos'] value pos) (sPSet C sp E ta tv) := by
  refine ⟨fun pins s σ H D I h => ?_⟩
  refine plainObj_wpAny_Assign_Attribute (thn (hv.run pins s σ H _ I h) fun u s1 ⟨y, H1, I1, ry, q⟩ => thn (ha.run pins s1 σ H1 _ I1 q) fun ov s2 ⟨x, H2, I2, rx, a, dx, fs, ex, ea, q2⟩ => ?_) hs
  subst ex
  obtain rfl : ov = Value.ref a := rx
  obtain ⟨mA, O, _, _, _, _⟩ := ins_get I2.hok ea
  obtain ⟨od, J, _⟩ := O.look
  obtain ⟨a0, rest, hrec⟩ := hp.rec_
  have I3 := I2.tok (s2.toks + 1)
  have hl : ([Value.ref a, u] : List Value).length = ps.length := by
    rw [← F.len _ _ _ _ q2]
    rfl
  refine PySem.W.set_plain I2.kIn J c.sa (PySem.W.osa_descr PySem.W.KF.slot_pset I3.kIn J c.po hp.tk hp.ty (PySem.W.prop_set I3.kIn hrec ?_))
  have b := hb { s2 with toks := s2.toks + 1 } [.ref a, u] I3.kIn (by rw [List.append_nil]; exact hl)
  rw [List.append_nil] at b
  refine codeAny_mono (F.run X.A.in1.in1 X.stack { s2 with toks := s2.toks + 1 } H2 ⟨[.ref a, u], []⟩ [.ref a, u] [.ref a, y] _ E (Room.in2 hr) I3.env0.in1.in1 b (.cons rfl (.cons ry .nil)) q2) fun r s' hq => ?_
  cases r with
  | error e => exact hx pins σ _ _ e s' I3 hq
  | ok fl =>
    cases fl with
    | ret u =>
      obtain ⟨v, H', I', rv, q3⟩ := I3.after hq
      exact ⟨σ, H', I', q3⟩
    | next => exact False.elim hq
    | brk => exact False.elim hq
    | cont => exact False.elim hq
end
/-- what leaves a def by its own promise -/
theorem passO {X : Cx} {E : XK} (tk : Takes X (fun cls d _ H => E cls d H)) : Passes (L2.CX X.prog X.w) X E := fun pins σ H s e s' I c => passes_call tk (fun _ _ _ _ h => h) pins σ H s e s' I c
section
variable {X : Cx} {CX : CXT} {k : Nat} {f C : Addr} {fd : FuncData} {ps : List Str} {ds : List Value} {dvs : List V} {sp : Sp} {E : L2.St → XK} {x : Str} {p pos : Pos} {e : Expr} {es : List Expr} {t : TA}
theorem run_makeT {pins : List (Addr × Obj)} {σ : L2.St} {H : Hp} {s : Shared} {Q : VK} {us : List Value} {vs : List V} (M : Mk X.K C f) (F : FnOk X.prog X.w X.K X.mg X.base CX k f fd ps sp) (hr : Room (k + 1) X.A) (hb : Binds X.K fd ps ds) (hd : Vals dvs ds)
    (hx : PassesAt CX X σ (E σ)) (I : Inv X pins σ H s) (r : Vals vs us)
    (h : ∀ x dx, H x = none → H dx = none → dx ≠ x → sp (.ref x :: (vs ++ dvs)) (upd (upd H dx (.own x)) x (.ins C dx [])) (fun v H2 => v = .non ∧ Q (.ref x) H2) (E σ)) :
    wpAny (model X.prog X.w) X.A (call (.ref C) us) (EP X pins σ Q) X.xe s := by
  have hq := h (s.heap.objs.size + 1) s.heap.objs.size (I.hok.fresh (Nat.le_succ _)) (I.hok.fresh (Nat.le_refl _)) (Nat.ne_of_lt (Nat.lt_succ_self _))
  have I2 := Inv.made (C := C) I
  have r2 : Vals (V.ref (s.heap.objs.size + 1) :: (vs ++ dvs)) (Value.ref (s.heap.objs.size + 1) :: (us ++ ds)) := .cons rfl (r.append hd)
  have hl : (Value.ref (s.heap.objs.size + 1) :: us ++ ds).length = ps.length := by
    have e := r2.length
    rw [F.len _ _ _ _ hq] at e
    exact e.symm
  refine wpAny_call (make_map (f := f) I.kIn M.makes M.init (beq_iff_eq.mp M.fn) (codeAny_mono (F.run _ X.stack _ _ ⟨Value.ref (s.heap.objs.size + 1) :: us, []⟩ (Value.ref (s.heap.objs.size + 1) :: (us ++ ds)) _ _ (E σ) (hr.make C us [])
    (I2.env0.make C us []) (hb _ (Value.ref (s.heap.objs.size + 1) :: us) I2.kIn hl) r2 hq) fun r s' hq' => ?_))
  cases r with
  | error e => exact hx pins _ _ e s' I2 hq'
  | ok fl =>
    cases fl with
    | ret u =>
      obtain ⟨v, H', I3, rv, ev, q3⟩ := I2.after hq'
      subst ev
      exact ⟨rv, ⟨V.ref (s.heap.objs.size + 1), H', I3, rfl, q3⟩⟩
    | next => exact False.elim hq'
    | brk => exact False.elim hq'
    | cont => exact False.elim hq'
def tMakeT (C : Addr) (sp : Sp) (dvs : List V) (E : L2.St → XK) (t : TA) : TE := fun σ H Q => t σ H fun vs H1 => ∀ x dx, H1 x = none → H1 dx = none → dx ≠ x → sp (.ref x :: (vs ++ dvs)) (upd (upd H1 dx (.own x)) x (.ins C dx [])) (fun v H2 => v = .non ∧ Q (.ref x) H2) (E σ)
/-- C(e, ..) within a try -/
theorem pe_makeT (M : Mk X.K C f) (F : FnOk X.prog X.w X.K X.mg X.base CX k f fd ps sp) (hr : Room (k + 1) X.A) (hg : Gl X x) (hm : X.mg x = some (.ref C)) (hb : Binds X.K fd ps ds) (hd : Vals dvs ds) (hx : ∀ σ, PassesAt CX X σ (E σ))
    (ha : PA X (e :: es) t) (hdb : (x == ("__debug__" : Str)) = false := by decide) (he : starEach (e :: es) X.env = (false, eval e X.env) :: starEach es X.env := by rfl) (hpl : (backTo pos (starEach es X.env)).any (·.1) = false := by rfl) :
    PE X (.Call (.Name x p) (e :: es) [] pos) (tMakeT C sp dvs E t) := by
  refine ⟨fun pins s σ H Q I h => ?_⟩
  refine wpAny_Call_Name_kw (ld_glob I hg hm ?_ hdb)
  refine PySem.W.callWith_K (h₀ := X.base) I.ok.mod.kin M.kp (thn (ha.run pos pins s σ H _ I h) fun us s1 ⟨vs, H1, I1, r, q⟩ => ⟨I1.kIn, ?_⟩) he hpl
  exact run_makeT M F hr hb hd (hx σ) I1 r q
end
/-- the calls of a def with one default: with and without it -/
structure Dfl1 (K : PySem.W.Frag) (fd : FuncData) (ps : List Str) (dv : V) : Prop where
  all : Binds K fd ps []
  one : ∃ ds, Vals [dv] ds ∧ Binds K fd ps ds
end XL
namespace XL
open PySem PySem.Spec PyProof.Rows L2
section
variable {X : Cx} {pos : Pos}
theorem pg_unlK (K : PySem.W.Frag) (n : Nat) {es : List Expr} {k : Nat} {t : TGs} (h : PGs X es t) (hc : X.calm = true := by rfl) (hK : X.K = K := by rfl)
    (hn : (assignEach es X.env).length = n := by rfl) (hst : (assignEach es X.env).findIdx? (·.1) = none := by rfl) : PG X (.Tuple es k pos) (gUnl K n t) := hK ▸ pg_unl hc h hn hst
theorem mt_indexK (K : PySem.W.Frag) (hK : X.K = K := by rfl) : MtR X "list.index" (rIndex K) := hK ▸ mt_index
end
end XL
set_option Elab.async false
set_option linter.all false
set_option maxRecDepth 100000
set_option maxHeartbeats 4000000
/-! XDel: del xs[a:]. -/
namespace XL
open PySem PySem.Spec PyProof.Rows L2
section
variable {prog : Program} {w : World} {A : Around} {E : Value → Shared → Prop} {s : Shared}
def selF (a n : Int) (i : Nat) : Bool := if (1 : Int) > 0 then a ≤ i && i < n && ((i : Int) - a) % 1 == 0 else n < i && i ≤ a && (a - i) % (-1) == 0
theorem selF_eq (a n i : Nat) : selF (a : Int) (n : Int) i = (decide (a ≤ i) && decide (i < n)) := by
  unfold selF
  rw [if_pos (by decide)]
  have h : (((i : Int) - (a : Int)) % 1 == 0) = true := by rw [Int.emod_one]; rfl
  rw [h, Bool.and_true]
  congr 1
  · exact decide_eq_decide.mpr Int.ofNat_le
  · exact decide_eq_decide.mpr Int.ofNat_lt
theorem zip_keep : ∀ (xs : List Value) (j a n : Nat), j + xs.length ≤ n → ((xs.zipIdx j).filterMap fun (p : Value × Nat) => if (selF (a : Int) (n : Int) p.2) = true then none else some p.1) = xs.take (a - j)
  | [], _, _, _, _ => by simp
  | x :: r, j, a, n, h => by
    rw [List.length_cons] at h
    rw [List.zipIdx_cons, List.filterMap_cons, selF_eq]
    have ih := zip_keep r (j + 1) a n (by omega)
    by_cases hj : a ≤ j
    · have e1 : (decide (a ≤ j) && decide (j < n)) = true := by rw [decide_eq_true hj, decide_eq_true (by omega)]; rfl
      have e0 : a - j = 0 := by omega
      have e2 : a - (j + 1) = 0 := by omega
      rw [e2, List.take_zero] at ih
      rw [e0, List.take_zero]
      simp only [e1, if_true]
      exact ih
    · have e1 : (decide (a ≤ j) && decide (j < n)) = false := by rw [decide_eq_false hj]; rfl
      have e0 : a - j = a - (j + 1) + 1 := by omega
      rw [e0, List.take_succ_cons, ← ih]
      simp only [e1, Bool.false_eq_true, if_false]
theorem bounds_from {a n : Nat} (h : a ≤ n) : sliceBounds (some (a : Int)) none none n = ((a : Int), (n : Int), 1) := by
  simp only [sliceBounds, Option.getD_none]
  have h1 : ¬ ((a : Int) < 0) := by omega
  simp only [h1, if_false, show (1 : Int) > 0 by decide, if_true]
  congr 1
  omega
/-- list.__delitem__ with a slice from a place on -/
theorem delItem_from {l sl : Addr} {items : Array Value} {n : Nat} {vl : Value} {a : Nat} {Q : Unit → Shared → Prop}
    (e : s.heap.get? l = some { cls := .type "list", data := .seq items n }) (hs : s.heap.IsSliceOf sl vl .none .none) (pl : IsPart vl (some (a : Int))) (hac : a ≤ items.size) (hsz : items.size ≤ sizeLine)
    (h : Q () { s with heap := s.heap.update l (Obj.mapSeq fun xs => (xs.toList.zipIdx.filterMap fun (p : Value × Nat) => if (selF (a : Int) (items.size : Int) p.2) = true then none else some p.1).toArray) }) :
    wpAny (model prog w) A (delItem (.ref l) (.ref sl)) Q E s := by
  have hl : s.heap.IsList l items := PySem.IsL.isList e
  obtain ⟨os, hos, hcs, hds⟩ := id hs
  have hTs : s.TypeIs (.ref sl) "slice" := ⟨os, hos, hcs⟩
  have hstep : ¬ ((rawPart none == rawInt 0) = true) := Bool.false_ne_true
  have hz' : ((fun xs : Array Value => (xs.toList.zipIdx.filterMap fun (p : Value × Nat) => if (selF (a : Int) (items.size : Int) p.2) = true then none else some p.1).toArray) items).size ≤ sizeLine + 1 := by
    show (_ : List Value).toArray.size ≤ _
    rw [List.size_toArray, zip_keep items.toList 0 a items.size (by rw [Array.length_toList]; omega), List.length_take, Array.length_toList]
    omega
  unfold delItem
  try with_reducible refine wpAny_holding ?_
  first | refine wpAny_bind (wpAny_pure ?_) | skip
  refine wpAny_bind (wpAny_sequenceKey hl.typeIs (by decide) ?_)
  refine wpAny_bind (wpAny_callSpecial?_slot (name := Str.ofString "__delitem__") hl.typeIs PySem.F.slot_list_delitem
    (wpAny_call_entry PySem.F.slot_list_delitem hl.typeIs PySem.F.entry_list_delitem ?_ (PySem.F.args_list_delitem_2 _ _)))
  show wpAny _ _ (Builtin.List.listSubscript? (.ref sl) >>= _) _ _ s
  refine wpAny_bind ?_
  unfold Builtin.List.listSubscript?
  refine wpAny_bind (wpAny_specialOf hTs slice_no_index ?_)
  simp only [Option.isNone_none, if_true]
  refine wpAny_pure ?_
  show wpAny _ _ (typeOf (.ref sl) >>= _) _ _ s
  refine wpAny_bind (wpAny_typeOf hTs ?_)
  first
    | rw [if_neg (by decide)]
    | refine PySem.W.KFB.if_not (by decide) ?_
  rw [listSliceParts_eq]
  refine wpAny_bind (wpAny_bind (wpAny_field hos hds (x := .none) rfl (wpAny_bind (wpAny_listPart .none ?_))))
  rw [if_neg hstep]
  refine wpAny_bind (wpAny_field hos hds (x := vl) rfl (wpAny_bind (wpAny_listPart pl ?_)))
  refine wpAny_bind (wpAny_field hos hds (x := .none) rfl (wpAny_bind (wpAny_listPart .none (wpAny_pure ?_))))
  unfold Builtin.List.listItems
  refine wpAny_bind (wpAny_bind (wpAny_seqItems e rfl (wpAny_pure ?_)))
  refine wpAny_bind (wpAny_of_eq ((sliceIndices_raw (some (a : Int)) none none items.size (by simp)).trans (congrArg (pure : Int × Int × Int → Sem (Int × Int × Int)) (bounds_from hac))) ?_)
  refine wpAny_bind (wpAny_rule ?_)
  show wpAny _ _ (updateSeq l (fun xs => (xs.toList.zipIdx.filterMap fun (p : Value × Nat) => if (selF (a : Int) (items.size : Int) p.2) = true then none else some p.1).toArray) >>= _) _ _ s
  refine wpAny_bind (wpAny_updateSeq (hz := hsz) (_hz' := hz') e rfl ?_)
  refine wpAny_bind (wpAny_letGo ?_)
  first
    | exact wpAny_bind (wpAny_pure (wpAny_pure ⟨.none, rfl, wpAny_pure h⟩))
    | exact wpAny_pure ⟨.none, rfl, wpAny_pure h⟩
end
section
variable {X : Cx} {pos : Pos}
def tDelF (to ti : TE) : TS := fun D σ H => to σ H fun x H1 => ti σ H1 fun y H2 => ∃ (l : Addr) (xs : List V) (k : Nat), x = .ref l ∧ y = .int (k : Nat) ∧ H2 l = some (.lst xs) ∧ k ≤ xs.length ∧ D.nx σ (upd H2 l (.lst (xs.take k)))
theorem ps_delFrom {o lo : Expr} {to ti : TE} {p2 tpos : Pos} (ho : PE X o to) (hi : PE X lo ti) : PS X (.Delete [.Subscript o (.Slice (some lo) none none p2) tpos] pos) (tDelF to ti) := by
  refine ⟨fun pins s σ H D I h => ?_⟩
  refine wpAny_Delete (wpAny_deleteEach_cons (wpAny_delete_Subscript (thn (ho.run pins s σ H _ I h) fun u s1 ⟨x, H1, I1, rx, q1⟩ => ?_)))
  refine wpAny_Slice (wpAny_evalPart_some (thn (hi.run pins s1 σ H1 _ I1 q1) fun iv s2 ⟨y, H2, I2, ry, q2⟩ => wpAny_evalPart_none (wpAny_evalPart_none ?_)))
  obtain ⟨l, xs, k, rfl, rfl, hH, hk, q2⟩ := q2
  cases (show u = Value.ref l from rx)
  obtain ⟨t, rfl⟩ := (show ∃ t, iv = Value.int (k : Nat) t from ry)
  have I4 : L2.Inv X pins σ H2 { s2 with heap := s2.heap.push { cls := .type "slice", data := .fields #[.int (k : Nat) t, .none, .none] } } := I2.kept (t' := s2.toks) fun b ob q => Heap.get?_push_of_some _ q
  obtain ⟨z, its, n, r, hl, e⟩ := I4.lstM hH
  refine delItem_from (a := k) e (Heap.IsSliceOf.new ..) (.int _ _) (by rw [List.size_toArray, ← hl]; exact hk) (by rw [List.size_toArray]; omega) ?_
  refine wpAny_deleteEach_nil ⟨σ, _, I4.lset (its' := its.take k) (t' := s2.toks) hH e ?_ (r.take k) ?_, q2⟩
  · show (_ : List Value).toArray = _
    rw [zip_keep its 0 k _ (by rw [List.size_toArray]; omega)]
    rfl
  · rw [List.length_take]
    omega
end
theorem Sep.setAt {G H : Hp} {M : List (Addr × HO)} {i : Nat} {a : Addr} {o o' : HO} (S : Sep G M H) (h : M[i]? = some (a, o)) : Sep G (M.set i (a, o')) (upd H a o') := by
  have hi := (List.getElem?_eq_some_iff.mp h).1
  have S1 := S.perm (perm_erase h).symm
  have S2 := S1.set (o' := o')
  have e : (M.set i (a, o'))[i]? = some (a, o') := List.getElem?_set_self hi
  have p := perm_erase e
  rw [List.eraseIdx_set_eq] at p
  exact S2.perm p
end XL
namespace XL
open PySem PySem.Spec PyProof.Rows L2
/-! ### a text, several times -/
def repS (x : Str) (k : Nat) : Str := ⟨(List.replicate k x.cps).foldl (· ++ ·) #[]⟩
theorem foldl_cps : ∀ (k : Nat) (a : Array Nat) (x : Array Nat), ((List.replicate k x).foldl (· ++ ·) a).toList = a.toList ++ (List.replicate k x.toList).flatten
  | 0, a, x => by simp
  | k + 1, a, x => by
    rw [List.replicate_succ, List.foldl_cons, foldl_cps k, List.replicate_succ, List.flatten_cons]
    simp
theorem repS_tl (x : Str) (k : Nat) : (repS x k).cps.toList = (List.replicate k x.cps.toList).flatten := by
  have := foldl_cps k #[] x.cps
  simpa [repS] using this
theorem repS_len (x : Str) : ∀ k : Nat, (repS x k).length = k * x.length := by
  intro k
  rw [len_tl, repS_tl]
  induction k with
  | zero => simp
  | succ k ih =>
    rw [List.replicate_succ, List.flatten_cons, List.length_append, ih, ← len_tl, Nat.succ_mul]
    omega
theorem repS_mem {x : Str} {k c : Nat} (h : c ∈ (repS x k).cps.toList) : c ∈ x.cps.toList := by
  rw [repS_tl] at h
  obtain ⟨l, hl, hc⟩ := List.mem_flatten.mp h
  rw [(List.mem_replicate.mp hl).2] at hc
  exact hc
def yMulS : R2 := fun x y H Q => match x, y with
  | .str z, .int k => 2 ≤ k ∧ k ≤ 1000 ∧ 1 ≤ z.length ∧ z.length ≤ 1000 ∧ Q (.str (repS z k.toNat)) H
  | _, _ => False
theorem op_mulS {X : Cx} : OpR X (binaryOp .Mult) yMulS := by
  intro pins s σ H x y v u Q I rx ry h
  unfold yMulS at h
  split at h
  · rename_i z k
    obtain ⟨h1, h2, h3, h4, q⟩ := h
    obtain ⟨t, rfl⟩ := rx
    obtain ⟨t', rfl⟩ := ry
    have hk : ¬ k < 1 := by omega
    have hc : (k == 1 || z.length == 0) = false := by
      rw [Bool.or_eq_false_iff]
      exact ⟨beq_eq_false_iff_ne.mpr (by omega), beq_eq_false_iff_ne.mpr (by omega)⟩
    have hl : z.length * k.toNat ≤ 1000 * 1000 := Nat.mul_le_mul h4 (by omega)
    refine P.mul_str (by rw [decide_eq_false (by omega), decide_eq_false (by omega)]; rfl) (fun _ _ h => ?_) (fun _ _ => ?_) ?_
    · have : (z.length : Int) ≤ (2 ^ 63 - 1) / k := by
        rw [Int.le_ediv_iff_mul_le (by omega)]
        have e : (z.length : Int) * k = ((z.length * k.toNat : Nat) : Int) := by rw [Int.natCast_mul, Int.toNat_of_nonneg (by omega)]
        rw [e]
        omega
      omega
    · unfold Builtin.Str.tooLong
      exact decide_eq_false (by rw [sizeLine_eq]; omega)
    · rw [if_neg hk, if_neg (by rw [hc]; decide)]
      refine ⟨?_, .str (repS z k.toNat), H, I.tok _, ⟨_, rfl⟩, q⟩
      show (repS z k.toNat).length ≤ sizeLine
      rw [repS_len, sizeLine_eq, Nat.mul_comm]
      omega
  · exact h.elim
end XL
set_option Elab.async false
set_option linter.all false
set_option maxRecDepth 100000
set_option maxHeartbeats 4000000
/-! XPage: x in o by an own __contains__. -/
namespace XL
open PySem PySem.Spec PyProof.Rows L2
section
variable {X : Cx} {CX : CXT} {C f : Addr} {fd : FuncData} {ps : List Str} {sp : Sp} {E : XK} {n : Nat}
def yInO (C : Addr) (sp : Sp) (E : XK) (ng : Bool) : R2 := fun x y H Q => ∃ a dx fs, y = .ref a ∧ H a = some (.ins C dx fs) ∧ sp [.ref a, x] H (fun v H' => match v with
  | .bl b => Q (.bl (if ng = true then !b else b)) H'
  | _ => False) E
theorem op_inO (F : FnOk X.prog X.w X.K X.mg X.base CX n f fd ps sp) (hs : PySem.W.findIn X.K (.ref C) "__contains__" = some (some (.ref f))) (hf : PySem.W.isFn X.K (.ref f) = true) (hb : Binds X.K fd ps []) (hx : Passes CX X E) (hr : Room n X.A) : OpR X (compareOp .In) (yInO C sp E false) := by
  intro pins s σ H x y u v Q I rx ry h
  obtain ⟨a, dx, fs, rfl, ha, hsp⟩ := h
  cases ry
  obtain ⟨mA, J1, _⟩ := ins_get I.hok ha
  obtain ⟨od, J1, _⟩ := J1.look
  obtain ⟨m, hF⟩ := I.fr
  refine PySem.W.in_K hF I.ok.mod.kin J1 hs hf (wpAny_mono (run_fn (us := [.ref a, u]) (vs := [.ref a, x]) (dvs := []) F hr hb .nil hx I (.cons rfl (.cons rx .nil)) hsp) (fun r s' q => ?_) fun _ _ e => e)
  obtain ⟨z, H', I', rz, q⟩ := q
  cases z with
  | bl b =>
    cases rz
    exact wpAny_truthy_bool ⟨.bl b, H', I', rfl, q⟩
  | _ => exact q.elim
theorem op_ninO (F : FnOk X.prog X.w X.K X.mg X.base CX n f fd ps sp) (hs : PySem.W.findIn X.K (.ref C) "__contains__" = some (some (.ref f))) (hf : PySem.W.isFn X.K (.ref f) = true) (hb : Binds X.K fd ps []) (hx : Passes CX X E) (hr : Room n X.A) : OpR X (compareOp .NotIn) (yInO C sp E true) := by
  intro pins s σ H x y u v Q I rx ry h
  obtain ⟨a, dx, fs, rfl, ha, hsp⟩ := h
  cases ry
  obtain ⟨mA, J1, _⟩ := ins_get I.hok ha
  obtain ⟨od, J1, _⟩ := J1.look
  obtain ⟨m, hF⟩ := I.fr
  refine PySem.W.notIn_K hF I.ok.mod.kin J1 hs hf (wpAny_mono (run_fn (us := [.ref a, u]) (vs := [.ref a, x]) (dvs := []) F hr hb .nil hx I (.cons rfl (.cons rx .nil)) hsp) (fun r s' q => ?_) fun _ _ e => e)
  obtain ⟨z, H', I', rz, q⟩ := q
  cases z with
  | bl b =>
    cases rz
    exact wpAny_truthy_bool ⟨.bl (!b), H', I', rfl, q⟩
  | _ => exact q.elim
end
theorem _root_.L2.Room.u190 {k : Nat} {A : Around} (r : L2.Room k A) : A.units + 190 < cLine := by have := r.un; omega
/-! ### == and != of data of up to 190 levels, and of plain values -/
def rNeL (K : PySem.W.Frag) : R2 := fun x y H Q => ∃ d e, Dp K H x d ∧ Dp K H y e ∧ d.canLay0 = true ∧ e.canLay0 = true ∧ d.depth ≤ 190 ∧ Q (.bl (!PyData.eqv d e)) H
theorem op_neL {X : Cx} (K : PySem.W.Frag) (hu : X.A.units + 190 < cLine) (hK : X.K = K := by rfl) : OpR X (compareOp .NotEq) (rNeL K) := by
  subst hK
  intro pins s σ H x y v u Q I rx ry h
  obtain ⟨d, e, hd, he, sd, se, dp, q⟩ := h
  obtain ⟨as, r1⟩ := Dp.reads I d x v hd rx
  obtain ⟨bs, r2⟩ := Dp.reads I e y u he ry
  exact SeqAt.compareNe_reads r1 r2 sd se (by have := Nat.min_le_left d.depth e.depth; omega) ⟨.bl _, H, I, rfl, q⟩
def yEqL (K : PySem.W.Frag) : R2 := fun x y H Q => match x, y with
  | .int i, .int j => Q (.bl (decide (i = j))) H
  | .str i, .str j => Q (.bl (decide (i = j))) H
  | .bl i, .bl j => Q (.bl (decide (i = j))) H
  | .ref a, .ref b => rEqL K (.ref a) (.ref b) H Q
  | x, y => scal x y = true ∧ Q (.bl (decide (x = y))) H
def yNeL (K : PySem.W.Frag) : R2 := fun x y H Q => match x, y with
  | .int i, .int j => Q (.bl (!decide (i = j))) H
  | .str i, .str j => Q (.bl (!decide (i = j))) H
  | .bl i, .bl j => Q (.bl (!decide (i = j))) H
  | .ref a, .ref b => rNeL K (.ref a) (.ref b) H Q
  | x, y => scal x y = true ∧ Q (.bl (!decide (x = y))) H
theorem op_eqLK {X : Cx} (K : PySem.W.Frag) (hu : X.A.units + 190 < cLine) (hK : X.K = K := by rfl) : OpR X (compareOp .Eq) (yEqL K) := by
  refine or_str (OpR.or (op_eq (X := X)) (op_eqL K hu hK)) fun x y H Q h => ?_
  unfold yEqL at h
  split at h
  · exact .inl ⟨rfl, by rw [deci]; exact h⟩
  · exact .inl ⟨rfl, by rw [decs]; exact h⟩
  · exact .inl ⟨rfl, by rw [decb]; exact h⟩
  · exact .inr h
  · exact .inl h
theorem op_neLK {X : Cx} (K : PySem.W.Frag) (hu : X.A.units + 190 < cLine) (hK : X.K = K := by rfl) : OpR X (compareOp .NotEq) (yNeL K) := by
  refine or_str (OpR.or (op_ne (X := X)) (op_neL K hu hK)) fun x y H Q h => ?_
  unfold yNeL at h
  split at h
  · exact .inl ⟨rfl, by rw [deci]; exact h⟩
  · exact .inl ⟨rfl, by rw [decs]; exact h⟩
  · exact .inl ⟨rfl, by rw [decb]; exact h⟩
  · exact .inr h
  · exact .inl h
end XL
set_option Elab.async false
set_option linter.all false
set_option maxRecDepth 100000
set_option maxHeartbeats 4000000
/-! XCnt: xs.count(x) of data. -/
namespace XL
open PySem PySem.Spec PyProof.Rows L2
theorem _root_.L2.Room.u65 {k : Nat} {A : Around} (r : L2.Room k A) : A.units + 65 < cLine := by have := r.un; omega
def rCntD (K : PySem.W.Frag) : V → List V → Hp → VK → Prop := fun x xs H Q => ∃ (a : Addr) (y : V) (ys : List V) (d : PyData) (ds : List PyData), x = V.ref a ∧ xs = [y] ∧ SqL K H a ys ∧ DpAll K H ys ds ∧ Dp K H y d ∧
  PyData.canLayAll0 ds = true ∧ SeqAt.shaped d = true ∧ Q (.int ((ds.countP fun z => PyData.eqv z d : Nat) : Int)) H
theorem mt_countD {X : Cx} (K : PySem.W.Frag) (hu : X.A.units + 65 < cLine) (h : X.K = K := by rfl) : MtR X "list.count" (rCntD K) := by
  subst h
  intro pins s σ H x xs v us Q I rx rxs h
  obtain ⟨a, y, ys, d, ds, rfl, rfl, hs, ha, hy, hxs, sd, q⟩ := h
  cases rx
  cases rxs with
  | cons ry rt =>
    rename_i uy ut
    cases rt
    obtain ⟨bs, r1⟩ := Dp.reads I d y uy hy ry
    have hroom : X.A.units + 1 + min (PyData.depthAll ds) d.depth < cLine := room_in_shaped sd hu
    obtain ⟨its, rv, ⟨⟨cls, dd, data, sl⟩, n, ho, hc, hdn, hd⟩, hlen⟩ := I.list hs
    simp only at hc hd
    subst hc hd
    obtain ⟨as, h4⟩ := Dp.readsAll I ds _ its ha rv
    have hmap : its.map (SeqAt.readOf s.heap) = ds := SeqAt.readsAll_map ds its as hxs h4
    refine call_meets PySem.F.slot_list_count ⟨_, ho, rfl⟩ PySem.F.entry_list_count (PySem.F.args_list_count_2 _ _)
      (SeqAt.list_countAt a its.toArray n dd sl uy (fun u => PyData.eqv (SeqAt.readOf s.heap u) d)) ⟨ho, SeqAt.items_eqAt (vs := its.toArray) (show ReadsAll s.heap its.toArray.toList ds as from h4) r1 hxs (SeqAt.canLay_of_shaped sd) hroom, ?_⟩
    have ec : its.toArray.toList.countP (fun u => PyData.eqv (SeqAt.readOf s.heap u) d) = ds.countP fun z => PyData.eqv z d := by
      rw [← hmap, List.countP_map]
      rfl
    refine ⟨.int ((ds.countP fun z => PyData.eqv z d : Nat) : Int), H, I.tok _, ⟨s.toks, ?_⟩, q⟩
    show Value.int ((its.toArray.toList.countP (fun u => PyData.eqv (SeqAt.readOf s.heap u) d) : Nat) : Int) s.toks = Value.int ((ds.countP fun z => PyData.eqv z d : Nat) : Int) s.toks
    rw [ec]
end XL
set_option Elab.async false
set_option linter.all false
set_option maxRecDepth 100000
set_option maxHeartbeats 4000000
/-! XIn: x in l, l a list, items data of up to 185 levels. -/
namespace XL
open PySem PySem.Spec PyProof.Rows L2
def rInL (K : PySem.W.Frag) : R2 := fun x y H Q => ∃ d ds, Dp K H x d ∧ Dp K H y (.list ds) ∧ d.canLay0 = true ∧ d.depth ≤ 185 ∧ PyData.canLayAll0 ds = true ∧ Q (.bl (ds.any fun z => PyData.eqv z d)) H
theorem in_deepLK {X : Cx} (K : PySem.W.Frag) (hu : X.A.units + 190 < cLine) (h : X.K = K := by rfl) : OpR X (compareOp .In) (rInL K) := by
  subst h
  intro pins s σ H x y v u Q I rx ry h
  obtain ⟨d, ds, hd, he, sd, dp, se, q⟩ := h
  obtain ⟨as, r1⟩ := Dp.reads I d x v hd rx
  obtain ⟨bs, r2⟩ := Dp.reads I (.list ds) y u he ry
  exact SeqAt.in_list_reads r2 r1 se sd (by have := Nat.min_le_right (PyData.depthAll ds) d.depth; omega) ⟨.bl _, H, I, rfl, q⟩
end XL
set_option Elab.async false
set_option linter.all false
set_option maxRecDepth 100000
set_option maxHeartbeats 4000000
/-! XPat: tuples that are put together and cut. -/
namespace XL
open PySem PySem.Spec PyProof.Rows L2
section
variable {K : PySem.W.Frag} {G H : Hp} {M : List (Addr × HO)} {a b : Addr} {xs ys : List V} {Q : VK}
theorem op_catAK {X : Cx} (K : PySem.W.Frag) (h : X.K = K := by rfl) : OpR X (binaryOp .Add) (rCatA K) := h ▸ op_catA
theorem cat_ok (S : Sep G M H) (ha : SqT K G a xs) (hb : SqT K G b ys) (hl : xs.length + ys.length ≤ sizeLine) (q : ∀ c G' H', Same G G' → SqT K G' c (xs ++ ys) → Sep G' M H' → Q (.ref c) H') : rCatA K (.ref a) (.ref b) H Q := by
  refine ⟨a, b, xs, ys, rfl, rfl, S.t ha, S.t hb, hl, fun e => ?_, fun _ e => ?_, fun _ _ p np => ?_⟩
  · subst e
    exact q b G H (Same.refl G) hb S
  · subst e
    exact q a G H (Same.refl G) (by rw [List.append_nil]; exact ha) S
  · exact q p _ _ (S.grow np) (SqT.of upd_same) (S.newG np)
theorem cutA_ok {lo hi : Option Int} (S : Sep G M H) (ha : SqT K G a xs) (q : ∀ c G' H', Same G G' → SqT K G' c (cutV xs lo hi) → Sep G' M H' → Q (.ref c) H') : rSlA K (.ref a) lo hi H Q := by
  refine ⟨a, xs, rfl, S.t ha, fun e => ?_, fun _ p np => ?_⟩
  · refine q a G H (Same.refl G) ?_ S
    have : cutV xs lo hi = xs := by
      unfold cutV
      rw [e.1, e.2, Nat.sub_zero, List.drop_zero, List.take_length]
    rw [this]
    exact ha
  · exact q p _ _ (S.grow np) (SqT.of upd_same) (S.newG np)
end
theorem sqT_ty {K : PySem.W.Frag} {H : Hp} {a : Addr} {xs : List V} (h : SqT K H a xs) : TyX K H (.ref a) (.type "tuple") := by
  rcases h with (h | ⟨o, h⟩) | ⟨o, _, _, h, c, _⟩
  · exact .base (.tup h)
  · exact .fTuple h
  · exact .kTuple h c
end XL
set_option Elab.async false
set_option linter.all false
set_option maxRecDepth 100000
set_option maxHeartbeats 4000000
/-! XRepr: repr of tuples (and of lists of plain values) whatever other repr is under way: some text of a known length at most. -/
namespace PySem
open Sem
/-- a piece: whatever is under way, some text of at most B signs -/
def RX (prog : Program) (w : World) (h₀ : Heap) (d B : Nat) (x : Value) : Prop :=
  ∀ (base : Nat), base + B ≤ sizeLine → ∀ (A : Around) (g : List Code) (E : Value → Shared → Prop) (s : Shared) (Q : Str → Shared → Prop), A.guards = some g → A.units + d < cLine → (∀ b o, h₀.get? b = some o → s.heap.get? b = some o) →
    (∀ t h' tk, t.length ≤ B → (∀ b o, s.heap.get? b = some o → h'.get? b = some o) → Q t { s with heap := h', toks := tk }) → wpAny (model prog w) A (pyReprUnder base x) Q E s
inductive RXs (prog : Program) (w : World) (h₀ : Heap) (d : Nat) : List Value → Nat → Prop
  | nil : RXs prog w h₀ d [] 0
  | cons {x : Value} {B C : Nat} {l : List Value} : RX prog w h₀ d B x → RXs prog w h₀ d l C → RXs prog w h₀ d (x :: l) (B + 2 + C)
section
variable {prog : Program} {w : World} {h₀ : Heap} {d : Nat}
theorem RX.leaf {x : Value} {t : Str} {B : Nat} (h : ReprIs prog w x t) (hl : t.length ≤ B) : RX prog w h₀ d B x :=
  fun base hb A _ E s Q _ _ _ hQ => h base (by omega) A E s Q fun tk => hQ t s.heap tk hl fun _ _ e => e
theorem RX.level {x : Value} {B d' : Nat} (h : RX prog w h₀ d B x) (hd : d ≤ d') : RX prog w h₀ d' B x :=
  fun base hb A g E s Q hg hu hk hQ => h base hb A g E s Q hg (by omega) hk hQ
theorem RXs.level {l : List Value} {C d' : Nat} (h : RXs prog w h₀ d l C) (hd : d ≤ d') : RXs prog w h₀ d' l C := by
  induction h with
  | nil => exact .nil
  | cons h1 _ ih => exact .cons (h1.level hd) ih
theorem wpAny_tupFoldX {A : Around} {g : List Code} {E : Value → Shared → Prop} (hg : A.guards = some g) (hu : A.units + d < cLine) : ∀ (l : List Value) (C : Nat) (acc : Array Str) (n : Nat) (s : Shared) (Q : (Array Str × Nat) → Shared → Prop), RXs prog w h₀ d l C → n + C ≤ sizeLine →
    (∀ b o, h₀.get? b = some o → s.heap.get? b = some o) → (∀ ts h' tk, ts.length = l.length → piled ts ≤ C → (∀ b o, s.heap.get? b = some o → h'.get? b = some o) → Q ⟨acc ++ ts.toArray, n + piled ts⟩ { s with heap := h', toks := tk }) →
    wpAny (model prog w) A (forIn l (⟨acc, n⟩ : (Array Str × Nat)) tupBody) Q E s := by
  intro l
  induction l with
  | nil =>
    intro C acc n s Q hT _ _ h
    have h0 := h [] s.heap s.toks rfl (by simp [piled]) fun _ _ e => e
    simp only [List.forIn_nil]
    exact wpAny_pure (by simpa [piled] using h0)
  | cons x l ih =>
    intro C acc n s Q hT hn hk0 h
    cases hT with
    | @cons _ B C' _ hx hl =>
      rw [List.forIn_cons]
      refine wpAny_bind (wpAny_bind (hx (n + 1) (by omega) _ _ _ _ _ hg hu hk0 fun t h' tk ht hkp => wpAny_pure ?_))
      refine ih C' (acc.push t) (n + (t.length + 2)) _ Q hl (by omega) (fun b o e => hkp _ _ (hk0 _ _ e)) fun ts h'' tk' hts hp hk2 => ?_
      have h1 := h (t :: ts) h'' tk' (by simp [hts]) (by rw [piled_cons]; omega) fun b o e => hk2 _ _ (hkp _ _ e)
      have e : n + piled (t :: ts) = n + (t.length + 2) + piled ts := by rw [piled_cons]; omega
      rw [e] at h1
      simpa using h1
theorem tupleText_le (ts : List Str) : (tupleText ts).length ≤ piled ts + 3 := by
  unfold tupleText
  rw [strLen_append, strLen_append]
  have e1 : ((("(" : String) : Str)).length = 1 := rfl
  have e3 : (((if ts.length == 1 then ",)" else ")" : String) : Str)).length ≤ 2 := by split <;> decide
  rw [e1]
  by_cases h : ts = []
  · subst h
    have : (Str.join ", " ([] : List Str)).length = 0 := rfl
    omega
  · have := join_length_add ts h
    omega
theorem wpOwn_tuple_reprX {a : Addr} {o : Obj} {items : Array Value} {n C : Nat}
    (ha : h₀.get? a = some o) (hc : o.cls = .type "tuple") (hd : o.data = .seq items n) (hT : RXs prog w h₀ d items.toList C)
    {A : Around} {g : List Code} {s : Shared} {R : Result → Shared → Prop} {base : Nat} {id : String} {rest : List Value}
    (hcg : (Code.builtin id ⟨.ref a :: rest, []⟩).isGuard = true) (hcu : (A.under (.builtin id ⟨.ref a :: rest, []⟩)).units = A.units + 1)
    (hg : A.guards = some g) (hu : A.units + (d + 1) < cLine) (hk0 : ∀ b o, h₀.get? b = some o → s.heap.get? b = some o)
    (hR : ∀ t h' u tk, t.length ≤ C + 7 → (∀ b o, s.heap.get? b = some o → h'.get? b = some o) → R (.ok (.ret (.str t u))) { s with heap := h', toks := tk })
    (hsz : base + (C + 7) ≤ sizeLine) :
    wpOwn (model prog w) A (.builtin id ⟨.ref a :: rest, []⟩) (Builtin.tupleReprAt base ⟨[.ref a], []⟩) (fun fin s' => match fin with | .done f => R (.ok f) s' | .again c' => c'.quiet = true ∧ codeAny (model prog w) A c' R s') (fun e s' => R (.error e) s') s := by
  rw [tuple_repr_tree, tupleReprUnderWay_eq]
  refine wpOwn_bind (wpOwn_stackTailAny hg (tupGuardF_off _) (tupGuardF_pos _) ?_)
  cases hn : (g.any fun c => tupGuardF (.ref a) (c, default)) with
  | true =>
    refine wpOwn_of_wpAny ?_
    show wpAny _ _ (do rule "tuple.repr.in-itself"; retStr "(...)") _ _ s
    refine wpAny_bind (wpAny_rule ?_)
    unfold retStr
    refine wpAny_bind (wpAny_mkStr (wpAny_pure ?_) (by decide))
    exact hR "(...)" s.heap s.toks (s.toks + 1) (by have : (("(...)" : String) : Str).length = 5 := rfl; omega) (fun _ _ e => e)
  | false =>
    refine wpOwn_of_wpAny ?_
    show wpAny _ _ (tupleReprRest base (.ref a)) _ _ s
    unfold tupleReprRest Builtin.Tuple.tupleItemsOf
    refine wpAny_bind (wpAny_bind (wpAny_seqItems (hk0 _ _ ha) hd (wpAny_pure ?_)))
    rw [← Array.forIn_toList]
    refine wpAny_bind (wpAny_tupFoldX (guards_under_guard hcg hg) (by rw [hcu]; omega) _ C _ _ _ _ hT (by omega) hk0 fun ts h' tk hts hp hkp => ?_)
    have hlen : ts.length = items.size := by simpa using hts
    have hle := tupleText_le ts
    unfold retStr
    refine wpAny_bind (wpAny_mkStr (wpAny_pure ?_) (by
      have : (tupleText ts).length ≤ sizeLine := by omega
      simpa [tupleText, hlen] using this))
    have h1 := hR (tupleText ts) h' tk (tk + 1) (by omega) hkp
    simpa [tupleText, hlen] using h1
theorem RX.tup {a : Addr} {o : Obj} {items : Array Value} {n C : Nat} (ha : h₀.get? a = some o) (hc : o.cls = .type "tuple") (hd : o.data = .seq items n) (hT : RXs prog w h₀ d items.toList C) : RX prog w h₀ (d + 1) (C + 7) (.ref a) := by
  intro base hb A g E s Q hg hu hk0 hQ
  refine wpAny_pyReprUnder_ref (by omega) (wpAny_pyReprObjUnder_twin (twin := "tuple.__repr__.under") ⟨o, hk0 _ _ ha, hc⟩ F.slot_tuple_repr rfl (by omega) ?_)
  exact call_twin_own (F.quiet_tuple_repr_under _) F.entry_tuple_repr_under F.check_tuple_repr_under ⟨o, hk0 _ _ ha, hc⟩ F.slot_tuple_repr (F.args_tuple_repr_1 _)
    (wpOwn_tuple_reprX (R := callEnd _ E) ha hc hd hT (isGuard_tuple_repr_under _) (units_under_tuple_repr_under _ _) hg hu hk0 (fun t h' u tk ht hk => ⟨⟨_, _, rfl⟩, _, _, rfl, hQ t h' tk ht hk⟩) (by omega))
/-- at the top -/
theorem top_tup {a : Addr} {o : Obj} {items : Array Value} {n C : Nat} (ha : h₀.get? a = some o) (hc : o.cls = .type "tuple") (hd : o.data = .seq items n) (hT : RXs prog w h₀ d items.toList C)
    {A : Around} {g : List Code} {E : Value → Shared → Prop} {s : Shared} {Q : Value → Shared → Prop} (hg : A.guards = some g) (hu : A.units + (d + 1) < cLine) (hk0 : ∀ b o, h₀.get? b = some o → s.heap.get? b = some o)
    (hQ : ∀ t h' u tk, t.length ≤ C + 7 → (∀ b o, s.heap.get? b = some o → h'.get? b = some o) → Q (.str t u) { s with heap := h', toks := tk }) (hsz : C + 7 ≤ sizeLine) : wpAny (model prog w) A (pyReprObj (.ref a)) Q E s := by
  refine wpAny_pyReprObj_slot (by omega) ⟨o, hk0 _ _ ha, hc⟩ F.slot_tuple_repr ?_
  exact wpAny_call (codeAny_call_builtin_own (Code.quiet_builtin _ (by decide +kernel)) F.entry_tuple_repr (F.slot_tuple_repr.check _ _ _ _ _ _ _ _ ⟨o, hk0 _ _ ha, hc⟩ (F.args_tuple_repr_1 _)
    (wpOwn_tuple_reprX (base := 0) (R := callEnd _ E) ha hc hd hT (isGuard_tuple_repr _) (units_under_tuple_repr _ _) hg hu hk0 (fun t h' u tk ht hk => ⟨_, _, rfl, hQ t h' u tk ht hk⟩) (by omega))))
/-! lists of plain values -/
theorem wpAny_list_repr_in {M : Model} {A : Around} {E : Value → Shared → Prop} {s : Shared} {Q : Fin → Shared → Prop} {a : Addr} {o : Obj} {x : Value} {l : List Value} {n} {b : Nat}
    (hget : s.heap.get? a = some o) (hd : o.data = .seq (x :: l).toArray n)
    (h1 : wpAny M A (do again (.builtin "list.__repr__.loop" ⟨[.ref a, rawInt 0, ← newList [], rawInt b], []⟩)) Q E s) (h2 : wpAny M A (do rule "list.repr.in-itself"; retStr "[...]") Q E s) : wpAny M A (Builtin.listReprAt b ⟨[.ref a], []⟩) Q E s := by
  intro Γ p hΓ
  have h1 := h1 Γ p hΓ
  have h2 := h2 Γ p hΓ
  unfold Builtin.listReprAt
  simp [slotArgs, Builtin.List.listItems, seqItems?, wp_load_of (h := hget), hd, stack]
  show wp M Γ (if (Γ.below.any _) = true then _ else _) _ _ p s
  split
  · simpa using h2
  · exact h1
end
/-- what is not known of what is under way may be said -/
theorem wpAny_guards {α : Type} {M : Model} {A : Around} {m : Sem α} {Q : α → Shared → Prop} {E : Value → Shared → Prop} {s : Shared} (h : ∀ g, wpAny M { A with guards := some g } m Q E s) : wpAny M A m Q E s := by
  intro Γ p hΓ
  exact h (Γ.code.guards ++ guardsOf Γ.below) Γ p ⟨hΓ.1, hΓ.2.1, hΓ.2.2.1, fun g hg => by cases hg; rfl, hΓ.2.2.2.2⟩
end PySem
set_option Elab.async false
set_option linter.all false
set_option maxRecDepth 100000
set_option maxHeartbeats 4000000
/-! XExcD: errors that tell data of any depth in their message ({x!r}). -/
namespace PySem
open Sem
/-- data without dicts, lists of plain values alone -/
def plainD : PyData → Bool
  | .none => true
  | .bool _ => true
  | .int _ => true
  | .str _ => true
  | _ => false
mutual
def okR : PyData → Bool
  | .tuple xs => okRs xs
  | .list xs => xs.all plainD
  | .dict _ => false
  | _ => true
def okRs : List PyData → Bool
  | [] => true
  | x :: r => okR x && okRs r
end
mutual
/-- how long the text can be -/
def tbR : PyData → Nat
  | .tuple xs => tbRs xs + 7
  | d => d.shown.length + 7
def tbRs : List PyData → Nat
  | [] => 0
  | x :: r => tbR x + 2 + tbRs r
end
section
variable {prog : Program} {w : World} {h₀ : Heap}
theorem leaf_is {v : Value} {d : PyData} {as : List Addr} (r : Reads h₀ v d as) (hp : plainD d = true) (hs : d.showable = true) (hz : d.shown.length ≤ sizeLine) : ReprIs prog w v d.shown := by
  cases r with
  | none => simpa only [PyData.shown] using ReprIs.none
  | bool b => simpa only [PyData.shown] using ReprIs.bool b
  | int i t => simpa only [PyData.shown] using ReprIs.int t (by simpa [PyData.showable] using hs)
  | str x t => simpa only [PyData.shown] using ReprIs.str x t (by simpa only [PyData.shown] using hz)
  | list _ _ _ _ => cases hp
  | tuple _ _ _ _ => cases hp
  | dict _ _ _ _ _ => cases hp
theorem leaves_are : ∀ {vs : List Value} {ds : List PyData} {as : List Addr}, ReadsAll h₀ vs ds as → ds.all plainD = true → PyData.showableAll ds = true → (∀ t ∈ PyData.shownAll ds, t.length ≤ sizeLine) →
    (PyData.shownAll ds).length = vs.length ∧ ∀ (i : Nat) (y : Value), vs[i]? = some y → ∃ t, (PyData.shownAll ds)[i]? = some t ∧ ReprIs prog w y t
  | _, _, _, .nil, _, _, _ => ⟨by simp [PyData.shownAll], fun i y h => by simp at h⟩
  | _, _, _, .cons (d := d) (ds := ds) h1 h2, hp, hs, hz => by
    rw [List.all_cons, Bool.and_eq_true] at hp
    simp only [PyData.showableAll, Bool.and_eq_true] at hs
    simp only [PyData.shownAll, List.mem_cons] at hz
    obtain ⟨e1, e2⟩ := leaves_are h2 hp.2 hs.2 fun t ht => hz t (.inr ht)
    refine ⟨by simp only [PyData.shownAll, List.length_cons, e1], fun i y h => ?_⟩
    simp only [PyData.shownAll]
    cases i with
    | zero =>
      rw [List.getElem?_cons_zero] at h
      cases h
      exact ⟨_, rfl, leaf_is h1 hp.1 hs.1 (hz _ (.inl rfl))⟩
    | succ i =>
      rw [List.getElem?_cons_succ] at h ⊢
      exact e2 i y h
theorem wpAny_list_reprX {a : Addr} {oa : Obj} {x : Value} {l : List Value} {na : Nat} {ts : List Str} {A : Around} {s : Shared} {R : Result → Shared → Prop} {base : Nat}
    (ha : s.heap.get? a = some oa) (hda : oa.data = .seq (x :: l).toArray na) (hlen : ts.length = (x :: l).toArray.size) (hT : ∀ (i : Nat) (y : Value), (x :: l).toArray[i]? = some y → ∃ t, ts[i]? = some t ∧ ReprIs prog w y t)
    (hR : ∀ t h' u tk, t.length ≤ (listText ts).length + 7 → (∀ b o, s.heap.get? b = some o → h'.get? b = some o) → R (.ok (.ret (.str t u))) { s with heap := h', toks := tk }) (hsz : base + ((listText ts).length + 7) ≤ sizeLine) :
    wpAny (model prog w) A.in1 (Builtin.listReprAt base ⟨[.ref a], []⟩) (fun fin s' => match fin with | .done f => R (.ok f) s' | .again c' => c'.quiet = true ∧ codeAny (model prog w) A c' R s') (fun e s' => R (.error e) s') s := by
  refine wpAny_list_repr_in ha hda ?_ ?_
  · refine wpAny_bind (m := newList []) (wpAny_newObj_type ?_)
    refine wpAny_pure ⟨F.quiet_list_repr_loop _, ?_⟩
    refine codeAny_list_repr_start (P := s.heap.objs.size) (Nat.ne_of_lt (Heap.lt_size ha)) hlen hT (Heap.get?_push_of_some _ ha) hda (Heap.get?_push_size _ rfl) (fun h' u tk hk => ?_) (by omega)
    exact hR _ h' u tk (by omega) fun b o e => hk b o (Nat.ne_of_lt (Heap.lt_size e)) (Heap.get?_push_of_some _ e)
  · refine wpAny_bind (wpAny_rule ?_)
    unfold retStr
    refine wpAny_bind (wpAny_mkStr (wpAny_pure ?_) (by decide))
    exact hR "[...]" s.heap s.toks (s.toks + 1) (by have : (("[...]" : String) : Str).length = 5 := rfl; omega) (fun _ _ e => e)
mutual
theorem rx_of : ∀ {d : PyData} {v : Value} {as : List Addr}, Reads h₀ v d as → okR d = true → d.showable = true → tbR d ≤ sizeLine → RX prog w h₀ d.depth (tbR d) v
  | .none, _, _, r, _, hs, hz => .leaf (leaf_is r rfl hs (by simp only [tbR] at hz; omega)) (by simp only [tbR]; omega)
  | .bool b, _, _, r, _, hs, hz => .leaf (leaf_is r rfl hs (by simp only [tbR] at hz; omega)) (by simp only [tbR]; omega)
  | .int i, _, _, r, _, hs, hz => .leaf (leaf_is r rfl hs (by simp only [tbR] at hz; omega)) (by simp only [tbR]; omega)
  | .str x, _, _, r, _, hs, hz => .leaf (leaf_is r rfl hs (by simp only [tbR] at hz; omega)) (by simp only [tbR]; omega)
  | .dict _, _, _, _, ho, _, _ => by simp [okR] at ho
  | .tuple xs, _, _, .tuple (a := a) h1 h2 h3 h4, ho, hs, hz => by
    simp only [okR] at ho
    simp only [PyData.showable] at hs
    simp only [tbR] at hz ⊢
    have h := rxs_of h4 ho hs (by omega)
    exact RX.tup h1 h2 h3 h
  | .list xs, _, _, .list (a := a) (vs := vs) h1 h2 h3 h4, ho, hs, hz => by
    simp only [okR] at ho
    simp only [PyData.showable] at hs
    simp only [tbR, PyData.shown] at hz ⊢
    obtain ⟨e1, e2⟩ := leaves_are (prog := prog) (w := w) h4 ho hs fun t ht => Nat.le_trans (listText_mem_le ht) (by omega)
    intro base hb A g E s Q hg hu hk0 hQ
    simp only [PyData.depth] at hu
    obtain ⟨l⟩ := vs
    cases l with
    | nil =>
      refine wpAny_pyReprUnder_ref (by omega) (wpAny_pyReprObjUnder_list_empty ⟨_, hk0 _ _ h1, h2⟩ (by omega) (hk0 _ _ h1) h3 ⟨_, _, rfl, hQ "[]" s.heap _ ?_ fun _ _ e => e⟩)
      have : (("[]" : String) : Str).length = 2 := rfl
      omega
    | cons x l =>
      refine wpAny_pyReprUnder_ref (by omega) (wpAny_pyReprObjUnder_twin (twin := "list.__repr__.under") ⟨_, hk0 _ _ h1, h2⟩ F.slot_list_repr.toG rfl (by omega) ?_)
      exact call_twin_plain F.plain_list_repr_under F.entry_list_repr_under F.check_list_repr_under ⟨_, hk0 _ _ h1, h2⟩ F.slot_list_repr.toG (F.args_list_repr_1 _)
        (wpAny_list_reprX (R := callEnd _ E) (hk0 _ _ h1) h3 (by simpa using e1) (fun i y e => e2 i y (by simpa using e)) (fun t h' u tk ht hk => ⟨⟨_, _, rfl⟩, _, _, rfl, hQ t h' tk ht hk⟩) hb)
theorem rxs_of : ∀ {ds : List PyData} {vs : List Value} {as : List Addr}, ReadsAll h₀ vs ds as → okRs ds = true → PyData.showableAll ds = true → tbRs ds ≤ sizeLine → RXs prog w h₀ (PyData.depthAll ds) vs (tbRs ds)
  | [], _, _, .nil, _, _, _ => .nil
  | d :: ds, _, _, .cons h1 h2, ho, hs, hz => by
    simp only [okRs, Bool.and_eq_true] at ho
    simp only [PyData.showableAll, Bool.and_eq_true] at hs
    simp only [tbRs] at hz ⊢
    simp only [PyData.depthAll]
    have a := rx_of h1 ho.1 hs.1 (by omega)
    have b := rxs_of h2 ho.2 hs.2 (by omega)
    exact .cons (a.level (Nat.le_max_left _ _)) (b.level (Nat.le_max_right _ _))
end
end
namespace XExc
open PySem.W PySem.Calls PyProof.Rows PySem.HandSPX
/-- repr(v), whatever is under way -/
structure Td (prog : Program) (w : World) (h₀ : Heap) (v : Value) : Prop where
  run : ∀ (A : Around) (E : Value → Shared → Prop) (s : Shared) (Q : Value → Shared → Prop), A.units + 70 < cLine → (∀ b o, h₀.get? b = some o → s.heap.get? b = some o) →
    (∀ y h' u tk, y.length ≤ 100000 → (∀ b o, s.heap.get? b = some o → h'.get? b = some o) → Q (.str y u) { s with heap := h', toks := tk }) → wpAny (model prog w) A (pyReprObj v) Q E s
theorem Td.keeps {prog : Program} {w : World} {h₀ h₁ : Heap} {v : Value} (t : Td prog w h₀ v) (k : ∀ b o, h₀.get? b = some o → h₁.get? b = some o) : Td prog w h₁ v := ⟨fun A E s Q hu hk hQ => t.run A E s Q hu (fun b o e => hk b o (k b o e)) hQ⟩
theorem td_of {prog : Program} {w : World} {h₀ : Heap} {v : Value} {d : PyData} {as : List Addr} (r : Reads h₀ v d as) (ho : okR d = true) (hs : d.showable = true) (hz : tbR d ≤ 100000) (hd : d.depth ≤ 64) : Td prog w h₀ v := by
  have z : ∀ n : Nat, n ≤ 200000 → n ≤ sizeLine := fun n hn => Nat.le_trans hn (by decide)
  refine ⟨fun A E s Q hu hk hQ => ?_⟩
  cases r with
  | none =>
    exact pyReprObj_none (hQ "None" s.heap _ _ (by have : (("None" : String) : Str).length = 4 := rfl; omega) fun _ _ e => e)
  | bool b =>
    exact pyReprObj_bool (hQ _ s.heap _ _ (by cases b <;> decide) fun _ _ e => e)
  | int i t =>
    simp only [tbR, PyData.shown] at hz
    exact pyReprObj_int (by simpa [PyData.showable] using hs) (hQ _ s.heap _ _ (by omega) fun _ _ e => e)
  | str x t =>
    simp only [tbR, PyData.shown] at hz
    exact pyReprObj_str (hQ _ s.heap _ _ (by omega) fun _ _ e => e) (z _ (by omega))
  | @tuple a o vs n xs as h1 h2 h3 h4 =>
    simp only [okR] at ho
    simp only [PyData.showable] at hs
    simp only [tbR] at hz
    simp only [PyData.depth] at hd
    refine wpAny_guards fun g => ?_
    exact top_tup h1 h2 h3 (rxs_of h4 ho hs (z _ (by omega))) rfl (show A.units + (PyData.depthAll xs + 1) < cLine by omega) hk (fun t h' u tk ht hk' => hQ t h' u tk (by omega) hk') (z _ (by omega))
  | @list a o vs n xs as h1 h2 h3 h4 =>
    simp only [okR] at ho
    simp only [PyData.showable] at hs
    simp only [tbR, PyData.shown] at hz
    simp only [PyData.depth] at hd
    obtain ⟨e1, e2⟩ := leaves_are (prog := prog) (w := w) h4 ho hs fun t ht => Nat.le_trans (listText_mem_le ht) (z _ (by omega))
    obtain ⟨l⟩ := vs
    cases l with
    | nil => exact wpAny_pyReprObj_list_empty ⟨_, hk _ _ h1, h2⟩ (by omega) (hk _ _ h1) h3 (hQ "[]" s.heap _ _ (by have : (("[]" : String) : Str).length = 2 := rfl; omega) fun _ _ e => e)
    | cons x l =>
      refine wpAny_pyReprObj_slot (by omega) ⟨_, hk _ _ h1, h2⟩ F.slot_list_repr.toG ?_
      exact wpAny_call (codeAny_call_builtin F.slot_list_repr.plain F.entry_list_repr (F.slot_list_repr.check _ _ _ _ _ _ _ _ ⟨_, hk _ _ h1, h2⟩ (F.args_list_repr_1 _)
        (wpAny_list_reprX (base := 0) (R := callEnd _ E) (hk _ _ h1) h3 (by simpa using e1) (fun i y e => e2 i y (by simpa using e)) (fun t h' u tk ht hk' => ⟨_, _, rfl, hQ t h' u tk (by omega) hk'⟩) (z _ (by omega)))))
  | @dict a o es n kvs as bs h1 h2 h3 h4 h5 => simp [okR] at ho
def cvOf (o : Obj) : Int := match o.data with
  | .func fd => (match fd.body with
    | .stmts ((.Expr (.Call _ (.JoinedStr (_ :: .FormattedValue _ cv _ _ :: _) _ :: _) _ _) _) :: _) => cv
    | _ => 0)
  | _ => 0
/-- the message shows the thing by its repr -/
def CvR (K : Frag) (fI : Addr) : Prop := ∃ o, K.lookup fI = some o ∧ cvOf o = 114
theorem CvR.eq {K : Frag} {fI : Addr} {oc kV doc pm ct : Value} {od an : Option Addr} {osl : Array (Option Value)} {qual fld msg : Str} {cda cc : Addr} {p1 p2 : Pos} {q : Ps} (h : CvR K fI)
    (ho : K.lookup fI = some ⟨oc, od, .func (ksFn "__init__" qual (iA fld p1 p2) (iB fld msg q) (iS fld) .none kV doc pm an (.ref cda) ct cc), osl⟩) : q.cv = 114 := by
  obtain ⟨o, h1, h2⟩ := h
  rw [ho] at h1
  cases h1
  exact h2
section
variable {prog : Program} {w : World} {A : Around} {E : Value → Shared → Prop} {s : Shared}
theorem told_okD {fld msg : Str} {env : Env} {q : Ps} {m : Str → Option Value} {v : Value} {h₀ : Heap} {Q : Value → Shared → Prop} (hn : s.heap.Ns env.locals m) (hv : m fld = some v) (ecv : q.cv = 114) (hr : Td prog w h₀ v) (hk0 : ∀ b o, h₀.get? b = some o → s.heap.get? b = some o) (hu : A.units + 80 < cLine)
    (hml : msg.length ≤ 1000) (hk : env.scope.kind = .function) (hl : env.kindOf fld = some .local) (hd : (fld == ("__debug__" : Str)) = false)
    (h : ∀ u tk h', (∀ b o, s.heap.get? b = some o → h'.get? b = some o) → Q u { s with heap := h', toks := tk }) : wpAny (model prog w) A (eval (iArg fld msg q) env) Q E s := by
  unfold iArg
  have sm : ∀ n : Nat, n ≤ 200000 → n ≤ sizeLine := fun n hn => Nat.le_trans hn (by decide)
  rw [ecv]
  refine wpAny_JoinedStr ?_
  have e0 : evalEach [Expr.Constant (.str msg) 0 q.d, .FormattedValue (.Name fld q.e) 114 none q.f] env = [eval (.Constant (.str msg) 0 q.d) env, eval (.FormattedValue (.Name fld q.e) 114 none q.f) env] := by first | rfl | simp [evalEach]
  rw [e0]
  refine Calls.Constant_str ⟨msg, _, rfl, ?_, ?_⟩
  · rw [Str.length_append]
    exact sm _ (by show 0 + msg.length ≤ _; omega)
  refine wpAny_FormattedValue_repr (ESX.ldL hn hv ?_ hk hl hd)
  refine hr.run _ _ _ _ ?hU hk0 fun y h' u tk hy hk' => ?_
  case hU => first | (show A.units + 70 < cLine; omega) | (simp [Around.under, Around.in1, Code.cUnits]; omega)
  have hl : (Str.empty ++ msg ++ y).length ≤ sizeLine := by
    rw [Str.length_append, Str.length_append]
    exact sm _ (by show 0 + msg.length + _ ≤ _; omega)
  have out : ∀ (tk : Tok) (tt : Nat), ∃ (y' : Str) (t' : Tok), Value.str y tk = .str y' t' ∧ (Str.empty ++ msg ++ y').length ≤ sizeLine ∧ Joins (model prog w) A E [] (Str.empty ++ msg ++ y') (fun out s₁ => out.length ≤ sizeLine ∧ Q (.str out s₁.toks) { s₁ with toks := s₁.toks + 1 }) { s with heap := h', toks := tt } := fun tk tt => ⟨_, _, rfl, hl, hl, h _ _ h' hk'⟩
  exact wpAny_formatField_str (out _ _) (out _ _) (sm _ (by omega))
end
section
variable {prog : Program} {w : World} {A : Around} {E : Value → Shared → Prop} {R : Result → Shared → Prop} {K : Frag} {mg mb : Str → Option Value} {nm fld msg : Str} {C fI : Addr}
theorem exc_initD (hcv : CvR K fI) (T : ExTxt prog K mg nm fld msg C fI) {x t0 : Addr} {v : Value} {hp : Heap} {g : Array GenState} {dr : Drawn} {tk : Nat} {os : OsState} (X : K.In hp) (hlim : hp.NoLimit) (hG : hp.Ns mainGlobals mg) (hB : hp.Ns builtinsNs mb) (hbb : ∀ x : Str, x ≠ "__name__" → mb x = bootBuiltins x)
    (hx : hp.get? x = some (excO C t0)) (hnx : K.lookup x = none) (hroom : A.depth < recursionLimit) (hun : A.units + 90 < cLine) (hr : Td prog w hp v)
    (hq : ∀ h' tk' dx, InitEnd hp h' x C dx fld v → R (.ok (.ret .none)) ⟨h', g, dr, tk', os⟩) :
    codeAny (model prog w) A (.call (.ref fI) ⟨[.ref x, v], []⟩) R ⟨hp, g, dr, tk, os⟩ := by
  obtain ⟨oc, kV, doc, pm, ct, od, an, osl, qual, cda, cc, p1, p2, q, vs, file, tf, ccl, cl, cdd, cld, ccs, csl, ho, hcd, hcda, hvs, hfile, hcc, ⟨pl, hev⟩, hbind⟩ := T.fn
  obtain ⟨nm', q', N, bs, bm, sn, sub, ab, col, dd, k0, k1, k2, k3, k5, hC, hbm⟩ := T.cls
  have hcl : clsIn K C = some { name := nm', bases := bs, mro := .ref C :: bm, ns := N, qualname := q', hasDict := true, slotNames := sn, subclasses := sub, abstract := ab, collection := col, hasDel := false } := by unfold clsIn; rw [hC] <;> rfl
  have e1 : (iS fld).names.lookup fld = some .local := by
    show (iN fld).lookup fld = _
    unfold iN
    have z : (fld == PySem.Str.ofString "self") = false := by simpa using T.f1
    simp [List.lookup, z]
  have e2 : (iS fld).names.lookup ("self" : Str) = some .local := rfl
  have e3 : (iS fld).names.lookup ("__class__" : Str) = some .free := by
    show (iN fld).lookup ("__class__" : Str) = _
    unfold iN
    have z : (("__class__" : Str) == fld) = false := by simpa using Ne.symm T.f2
    have z2 : (("__class__" : Str) == PySem.Str.ofString "self") = false := by decide
    simp [List.lookup, z, z2]
  have e4 : (iS fld).names.lookup ("super" : Str) = some .globalImplicit := by
    show (iN fld).lookup ("super" : Str) = _
    unfold iN
    have z : (("super" : Str) == fld) = false := by simpa using Ne.symm T.f3
    have z2 : (("super" : Str) == PySem.Str.ofString "self") = false := by decide
    have z3 : (("super" : Str) == PySem.Str.ofString "__class__") = false := by decide
    simp [List.lookup, z, z2, z3]
  refine ks_codeAny_call_defAt (fd := ksFn "__init__" qual (iA fld p1 p2) (iB fld msg q) (iS fld) .none kV doc pm an (.ref cda) ct cc) (body := iB fld msg q) (binds := [("self", .ref x), (fld, v)]) hroom (X _ _ ho) rfl hlim (codeRec_of X hcd) rfl (BindsTo.of_eq (hbind _ _)) ?_ ?_ (fun h₁ hn k => ?_) rfl rfl rfl
  · intro y hy
    have hy : y ∈ iN fld := hy
    unfold iN at hy
    simp only [List.mem_cons, List.not_mem_nil, or_false] at hy
    rcases hy with rfl | rfl | rfl | rfl <;> exact fun z => nomatch z
  · intro y hy
    simp only [List.mem_cons, List.not_mem_nil, or_false] at hy
    rcases hy with rfl | rfl
    · exact e2
    · exact e1
  have X₁ : K.In h₁ := X.keeps k
  have hxL : hp.objs.size ≠ x := Nat.ne_of_gt (Heap.lt_size hx)
  have hx₁ := k _ _ hx
  have mS : List.lookup ("self" : Str) (List.reverse [(("self" : Str), Value.ref x), (fld, v)]) = some (.ref x) := by
    show List.lookup ("self" : Str) [(fld, v), (("self" : Str), Value.ref x)] = _
    have z : (("self" : Str) == fld) = false := by simpa using Ne.symm T.f1
    simp [List.lookup, z]
  have mF : List.lookup fld (List.reverse [(("self" : Str), Value.ref x), (fld, v)]) = some v := by
    show List.lookup fld [(fld, v), (("self" : Str), Value.ref x)] = _
    simp [List.lookup]
  refine ks_wpAt_execs_cons (ks_wpAt_Expr_any (ks_wpAt_MethodCall (o := iSup q) (name := "__init__") (he := hev _) ?_))
  have oC := X₁ _ _ hC
  refine ks_wpAt_super_base (env := callEnv (ksFn "__init__" qual (iA fld p1 p2) (iB fld msg q) (iS fld) .none kV doc pm an (.ref cda) ct cc) hp.objs.size fI) e4 e3 (by decide) rfl (X₁ _ _ ho) rfl rfl rfl (X₁ _ _ hcda) rfl hvs hfile T.htop ?_
  refine ks_loadName_global rfl e4 (loadGlobal_builtin (hG.keeps k) T.hsup (hB.keeps k) ((hbb _ (by decide +kernel)).trans (by first | boot_by_name | rfl | kernel_rfl)) ⟨rfl, ?_⟩)
  refine wpAny_loadName_free rfl e3 rfl ⟨_, X₁ _ _ hcc, rfl⟩ ?_
  refine wpAny_loadName_local rfl e2 hn mS ?_
  refine ks_wpAny_isType_cls oC rfl ⟨rfl, ?_⟩
  refine ks_wpAny_call_super oC rfl hx₁ rfl (fun c e => (nomatch e)) (looks_mroIn X₁ T.mroS) (fun h₂ hso k₂ => ?_)
  have X₂ : K.In h₂ := X₁.keeps k₂
  have hx₂ := k₂ _ _ hx₁
  have hsup : alongIn K "__init__" (((Value.ref C :: bm).dropWhile (· != .ref C)).drop 1) = some (some (.builtin "ValueError.__init__")) := by
    have z := T.sup
    unfold ks_superIn at z
    rw [hcl] at z
    exact z
  have I₂ : InstAt h₂ x (excO C t0) C none := ⟨hx₂, rfl, rfl, trivial⟩
  refine kxs_getMethod kxs_ValueError hso (looks_opaque X₂ T.opq) (l₀ := .ref C :: bm) ?_ rfl X₂ hsup (I₂.type.andThen (looks_subIn X₂ T.subV)) (ks_ne X₂ I₂ hcl) (by decide) ?_
  · exact fun A Q E s k q => wpAny_bind ((looks_clsIn X₂ hcl) A _ E s k (wpAny_pure q))
  have hu : (h₂.push (kxs_mw "ValueError.__init__" x)).get? h₂.objs.size = some (kxs_mw "ValueError.__init__" x) := Heap.get?_push_at rfl rfl
  have k₃ : ∀ b o, h₂.get? b = some o → (h₂.push (kxs_mw "ValueError.__init__" x)).get? b = some o := fun b o e => Heap.get?_push_of_some _ e
  have X₃ := X₂.keeps k₃
  have hn₃ : (h₂.push (kxs_mw "ValueError.__init__" x)).Ns hp.objs.size _ := (hn.keeps k₂).keeps k₃
  refine kxs_callWith (i := "ValueError.__init__") (x := x) rfl (evalArgs_plain ?_)
  show wpAny _ _ (spliced ((false, eval (iArg fld msg q) _) :: backTo q.h (starEach [] _))) _ _ _
  refine Calls.spliced_cons (told_okD hn₃ mF (hcv.eq ho) hr (fun b o e => k₃ _ _ (k₂ _ _ (k _ _ e))) ?hU T.ml rfl e1 T.f4 fun u tk' h' k' => Calls.spliced_nil ⟨k' _ _ hu, ?_⟩)
  case hU => first | exact hun | (show A.units + _ + 80 < cLine; omega) | (simp [Around.under, Around.in1, Code.cUnits]; omega)
  have k3' : ∀ b o, h₂.get? b = some o → h'.get? b = some o := fun b o e => k' _ _ (k₃ _ _ e)
  show wpAny _ _ (call (.ref h₂.objs.size) [u]) _ _ _
  refine call_mw (k' _ _ (X₃ _ _ hC)) (k3' _ _ hx₂) (k' _ _ hu) (one_size _) fun h₄ t1 k₄ sz₄ hx₄ => ?_
  show wpAt _ _ _ (execs _ _) _ _ _
  refine wpAt_of_wpAny ?_
  have X₄ : K.In h₄ := kept_but (X₃.keeps k') hnx k₄
  have hn₄ : h₄.Ns hp.objs.size (fun x_1 => List.lookup x_1 (List.reverse [(("self" : Str), Value.ref x), (fld, v)])) := by
    obtain ⟨oL, es, ep, hL, r⟩ := hn₃.keeps k'
    exact ⟨oL, es, ep, k₄ _ _ hxL hL, r⟩
  refine wpAny_execs_cons (plainObj_wpAny_Assign_Attribute ?_)
  refine ESX.ldL hn₄ mF (ESX.ldL hn₄ mS ?_ rfl e2) rfl e1 T.f4
  refine set_plain X₄ (ox := excO C t1) (od := none) ⟨hx₄, rfl, rfl, trivial⟩ T.sa ?_
  refine exc_osa X₄ hx₄ hcl (show refsVE (.ref C :: bm) = true from hbm) rfl T.noN (fun h₅ tk₅ dx k₅ dn dne hx₅ hn₅ => ?_)
  show wpAny _ _ (execs _ _) _ _ _
  have z : hp.objs.size < h₄.objs.size := hn₄.lt
  exact wpAny_execs_nil (hq h₅ tk₅ dx ⟨fun b o hb e => k₅ b o hb (k₄ b o hb (k3' b o (k₂ b o (k b o e)))), ⟨t1, hx₅⟩, Nat.le_of_lt (Nat.lt_of_lt_of_le z dn), dne, hn₅⟩)
theorem exc_madeD (hcv : CvR K fI) (T : ExTxt prog K mg nm fld msg C fI) {v : Value} {hp : Heap} {g : Array GenState} {dr : Drawn} {tk : Nat} {os : OsState} (X : K.In hp) (hlim : hp.NoLimit) (hG : hp.Ns mainGlobals mg) (hB : hp.Ns builtinsNs mb) (hbb : ∀ x : Str, x ≠ "__name__" → mb x = bootBuiltins x) (hroom : A.depth + 1 < recursionLimit) (hun : A.units + 95 < cLine) (hr : Td prog w hp v)
    (hq : ∀ h' tk' e d, OwnMade hp h' e C d fld v → R (.ok (.ret (.ref e))) ⟨h', g, dr, tk', os⟩) :
    codeAny (model prog w) A (.call (.ref C) ⟨[v], []⟩) R ⟨hp, g, dr, tk, os⟩ := by
  obtain ⟨nm', q', N, bs, bm, sn, sub, ab, col, dd, k0, k1, k2, k3, k5, hC, hbm⟩ := T.cls
  have k : ∀ b o, hp.get? b = some o → ((hp.push (kdv_tup [v])).push (excO C hp.objs.size)).get? b = some o := fun b o e => Heap.get?_push_of_some _ (Heap.get?_push_of_some _ e)
  have hget : ((hp.push (kdv_tup [v])).push (excO C hp.objs.size)).get? (hp.objs.size + 1) = some (excO C hp.objs.size) := by heap_get
  have hnx : K.lookup (hp.objs.size + 1) = none := by
    cases e : K.lookup (hp.objs.size + 1) with
    | none => rfl
    | some o =>
      have z : hp.get? (hp.objs.size + 1) = some o := X _ _ e
      exact absurd (Nat.lt_of_succ_lt (Heap.lt_size z)) (Nat.lt_irrefl _)
  refine call_own F.excBase_ValueError (fun X => refsVE_contains X bm hbm) (X _ _ hC) (looks_findIn X T.iC) (fun self => bind_fn X self T.tC) (one_size v) ?_
  refine exc_initD (tk := tk) hcv T (X.keeps k) (hlim.keeps k) (hG.keeps k) (hB.keeps k) hbb hget hnx ?_ ?hU (hr.keeps k) fun h' tk' dx ⟨k', ⟨t1, hx⟩, dn, dne, hns⟩ => ?_
  case hU => first | (show A.units + 90 < cLine; omega) | (show A.units + 1 + 90 < cLine; omega) | (simp [Around.under, Around.in1, Code.cUnits]; omega)
  · show A.depth + 1 < recursionLimit
    exact hroom
  · have old : ∀ b o, hp.get? b = some o → h'.get? b = some o := fun b o e => k' b o (Nat.ne_of_lt (Nat.lt_succ_of_lt (Heap.lt_size e))) (k b o e)
    have z : hp.objs.size + 1 + 1 ≤ dx := by
      first
        | (simpa only [Heap.size_push] using dn)
        | exact dn
        | (have q := dn; rw [Heap.size_push, Heap.size_push] at q; exact q)
    exact ⟨rfl, hq h' tk' (hp.objs.size + 1) dx ⟨old, Nat.le_succ _, ⟨_, _, hx, rfl, rfl, rfl, rfl⟩, Nat.le_trans (Nat.le_trans (Nat.le_succ _) (Nat.le_succ _)) z, dne, hns⟩⟩
end
end XExc
end PySem
namespace XL
open PySem PySem.Spec PyProof.Rows L2
/-- what can be told: data of bounded size -/
def RpD (K : PySem.W.Frag) (H : Hp) (v : V) : Prop := ∃ d, Dp K H v d ∧ okR d = true ∧ d.showable = true ∧ tbR d ≤ 100000 ∧ d.depth ≤ 64
theorem RpD.td {X : Cx} {pins : List (Addr × Obj)} {σ : L2.St} {H : Hp} {s : Shared} {v : V} {u : Value} (I : Inv X pins σ H s) (h : RpD X.K H v) (r : RelV v u) : PySem.XExc.Td X.prog X.w s.heap u := by
  obtain ⟨d, hd, h1, h2, h3, h4⟩ := h
  obtain ⟨as, rd⟩ := Dp.reads I d v u hd r
  exact PySem.XExc.td_of rd h1 h2 h3 h4
section
variable {X : Cx} {C fI : Addr} {nm fld msg : Str}
def tMkD (K : PySem.W.Frag) (C : Addr) (fld : Str) (ta : TA) : L2.St → Hp → XK → Prop := fun σ H Q => ta σ H fun vs H1 => ∃ v, vs = [v] ∧ RpD K H1 v ∧ ∀ d, H1 d = none → Q (.ref C) (some d) (upd H1 d (.xd [(fld, v)]))
theorem pmk_xD {a : Expr} {ta : TA} {p pos : Pos} {k : Nat} (hcv : PySem.XExc.CvR X.K fI) (T : PySem.XExc.ExTxt X.prog X.K X.mg nm fld msg C fI) (hr : Room (k + 1) X.A) (ha : PA X [a] ta) (hg : Gl X nm := by rfl) (hd : (nm == ("__debug__" : Str)) = false := by decide)
    (he : starEach (a :: []) X.env = (false, eval a X.env) :: starEach [] X.env := by rfl) (hpl : (backTo pos (starEach [] X.env)).any (·.1) = false := by rfl) :
    PMk X (.Call (.Name nm p) [a] [] pos) (tMkD X.K C fld ta) := by
  intro pins s σ H Q I h
  refine wpAny_Call_Name_kw (ld_glob I hg T.gC ?_ hd)
  refine PySem.W.callWith_K (h₀ := X.base) I.ok.mod.kin T.kC (thn (ha.run pos pins s σ H _ I h) fun us s1 hh => ?_) he hpl
  obtain ⟨vs, H1, I1, r1, v, ev, rp, q1⟩ := hh
  subst ev
  refine ⟨I1.kIn, ?_⟩
  cases r1 with
  | cons rv rn =>
    rename_i v' us'
    cases rn
    show wpAny _ _ (call (.ref C) [v']) _ _ _
    have hlim := I1.nolimit
    have hG := I1.mod.glob.keeps I1.bk
    obtain ⟨mb, hB, hbb⟩ := I1.mod.blt
    have hB := hB.keeps I1.bk
    obtain ⟨hp, g, dr, tk, os⟩ := s1
    refine wpAny_call (PySem.XExc.exc_madeD hcv T I1.kIn hlim hG hB hbb (by have := hr.dp; omega) (by have := hr.un; omega) (RpD.td I1 rp rv) fun h' tk' e d M => ?_)
    show MkP X pins σ Q (.ref e) ⟨h', g, dr, tk', os⟩
    obtain ⟨oe, fv, hoe, hc, hd, hdat, h1⟩ := M.obj
    have hns := M.ns
    obtain ⟨G', g1, g2⟩ := restrict h' fun b => decide (b ≠ e)
    have gk : ∀ b, b ≠ e → G'.get? b = h'.get? b := fun b hb => g1 b (decide_eq_true hb)
    have ge : G'.get? e = none := g2 e (by simp)
    have old : ∀ b o, hp.get? b = some o → G'.get? b = some o := fun b o q => (gk b (Nat.ne_of_lt (Nat.lt_of_lt_of_le (Heap.lt_size q) M.new))).trans (M.keep b o q)
    have ob : ObjOk X.prog X.w (upd H1 d (.xd [(fld, v)])) G' d (.xd [(fld, v)]) :=
      ⟨_, hns.at (fun o q => (gk d M.dne).trans q), fun f => relO_one rv f⟩
    have J : Inv X pins σ (upd H1 d (.xd [(fld, v)])) ⟨G', g, dr, tk', os⟩ := I1.laid (t' := tk') old M.dbig ob
    refine ⟨e, oe, fv, ⟨G', g, dr, tk', os⟩, _, .ref C, some d, rfl, J, fun b o q => ?_, ge, hoe, ⟨hc, hd⟩, hdat, h1, ?_, rfl, I1.bare, raises_own T.exC T.tyC, q1 d (I1.hok.fresh M.dbig)⟩
    · by_cases hb : b = e
      · have q' : G'.get? b = some o := q
        rw [hb, ge] at q'; cases q'
      · exact (gk b hb).symm.trans q
    · rw [upd_ne (Ne.symm M.dne)]
      exact I1.hok.fresh M.new
def tRaiseD (K : PySem.W.Frag) (C : Addr) (fld : Str) (W : WX) (ta : TA) : TS := fun _ σ H => tMkD K C fld ta σ H fun cls d H' => W cls d σ H'
theorem ps_raiseD {a : Expr} {ta : TA} {W : WX} {p pos pos2 : Pos} {k : Nat} (hc : X.calm = true) (hcv : PySem.XExc.CvR X.K fI) (T : PySem.XExc.ExTxt X.prog X.K X.mg nm fld msg C fI) (hr : Room (k + 1) X.A) (tk : Takes X W) (ha : PA X [a] ta) (hg : Gl X nm := by rfl) (hd : (nm == ("__debug__" : Str)) = false := by decide)
    (he : starEach (a :: []) X.env = (false, eval a X.env) :: starEach [] X.env := by rfl) (hpl : (backTo pos (starEach [] X.env)).any (·.1) = false := by rfl) :
    PS X (.Raise (some (.Call (.Name nm p) [a] [] pos)) none pos2) (tRaiseD X.K C fld W ta) := ps_raise hc tk (pmk_xD hcv T hr ha hg hd he hpl)
end
end XL
set_option Elab.async false
set_option linter.all false
set_option maxRecDepth 100000
set_option maxHeartbeats 4000000
/-! XReprL: repr of lists of anything and of an empty dict, whatever other repr is under way. -/
namespace PySem
open Sem
theorem listText_le (ts : List Str) : (listText ts).length ≤ piled ts + 3 := by
  have hX : (listText ts).length = (textFrom 0 "[" ts).length + 1 := by
    show (textFrom 0 "[" ts ++ "]").length = _
    rw [strLen_append]; rfl
  cases ts with
  | nil =>
    have : (textFrom 0 "[" []).length = 1 := rfl
    omega
  | cons t r =>
    have h := textFrom_length_pos r 1 (("[" : Str) ++ (if (0 : Nat) > 0 then ", " else "" : String) ++ t) (Nat.succ_pos 0)
    have e : ((("[" : Str) ++ (if (0 : Nat) > 0 then ", " else "" : String) ++ t)).length = 1 + t.length := by
      rw [strLen_append, strLen_append]; rfl
    have hY : (textFrom 0 "[" (t :: r)).length = (textFrom 1 (("[" : Str) ++ (if (0 : Nat) > 0 then ", " else "" : String) ++ t) r).length := rfl
    rw [hX, hY, h, e, piled_cons]
    omega
theorem done_le : ∀ done : List (Str × Tok), done.length ≤ piled (done.map (·.1))
  | [] => by simp
  | x :: r => by
    have ih := done_le r
    rw [List.map_cons, piled_cons, List.length_cons]
    omega
section
open Builtin.List Builtin
variable {prog : Program} {w : World} {A : Around} {R : Result → Shared → Prop} {h₀ : Heap} {d : Nat}
theorem codeAny_list_repr_loopX {a P : Addr} (hne : a ≠ P) {items : Array Value} {b : Nat} (hu : A.units + 1 + d < cLine) :
    ∀ (k i : Nat) (s : Shared) (oa : Obj) (na : Nat) (acc : Array Value) (c C : Nat) (done : List (Str × Tok)), items.size - i = k → i ≤ items.size →
    s.heap.get? a = some oa → oa.data = .seq items na →
    s.heap.get? P = some { cls := .type "list", dict := none, data := .seq acc c, slots := #[] } → acc.toList = strValues done → done.length = i → RXs prog w h₀ d (items.toList.drop i) C → (∀ b o, h₀.get? b = some o → b ≠ P ∧ s.heap.get? b = some o) →
    b + (piled (done.map (·.1)) + C + 3) ≤ sizeLine →
    (∀ t h' u tk, t.length ≤ piled (done.map (·.1)) + C + 3 → (∀ b o, b ≠ P → s.heap.get? b = some o → h'.get? b = some o) → R (.ok (.ret (.str t u))) { s with heap := h', toks := tk }) →
    codeAny (model prog w) A (.builtin "list.__repr__.loop" ⟨[.ref a, rawInt i, .ref P, rawInt ((b + piled (done.map (·.1)) : Nat) : Int)], []⟩) R s := by
  intro k
  induction k with
  | zero =>
    intro i s oa na acc c C done hk hi ha hda hP hacc hdone hrx hk0 hsz hR
    have hin : i = items.size := by omega
    refine codeAny_builtin F.entry_list_repr_loop ?_
    show wpAny _ _ («list.__repr__.loop» ⟨[.ref a, .int i 0, .ref P, .int ((b + piled (done.map (·.1)) : Nat) : Int) 0], []⟩) _ _ s
    rw [repr_loop_tree]
    refine wpAny_bind (wpAny_listItems ha hda ?_)
    have hnone : items[(i : Int).toNat]? = none := by simp [hin]
    simp only [hnone]
    unfold reprEnd
    refine wpAny_bind (wpAny_listItems hP rfl ?_)
    rw [hacc, repr_fold]
    refine wpAny_bind (wpAny_pure ?_)
    have hl := listText_le (done.map (·.1))
    refine wpAny_bind (wpAny_mkStr (wpAny_pure ?_) (show (listText (done.map (·.1))).length ≤ sizeLine by omega))
    exact hR (listText (done.map (·.1))) s.heap _ _ (by omega) (fun _ _ _ e => e)
  | succ k ih =>
    intro i s oa na acc c C done hk hi ha hda hP hacc hdone hrx hk0 hsz hR
    have hlt : i < items.size := by omega
    have ed : items.toList.drop i = items[i] :: items.toList.drop (i + 1) := by
      rw [List.drop_eq_getElem_cons (by simpa using hlt)]
      simp
    rw [ed] at hrx
    cases hrx with
    | @cons _ B C' _ h1 h2 =>
      refine codeAny_builtin F.entry_list_repr_loop ?_
      show wpAny _ _ («list.__repr__.loop» ⟨[.ref a, .int i 0, .ref P, .int ((b + piled (done.map (·.1)) : Nat) : Int) 0], []⟩) _ _ s
      rw [repr_loop_tree]
      refine wpAny_bind (wpAny_listItems ha hda ?_)
      have hsome : items[(i : Int).toNat]? = some items[i] := by simp [hlt]
      simp only [hsome]
      rw [Int.toNat_natCast]
      refine wpAny_bind (wpAny_holding (wpAny_guards fun g => h1 (b + piled (done.map (·.1)) + 1) (by omega) _ g _ s _ rfl ?hu (fun bb o e => (hk0 bb o e).2) fun t h' tk ht hk' => ?_))
      case hu => first | (show A.units + 1 + d < cLine; omega) | (simp [Around.under, Around.in1, Code.cUnits]; omega)
      refine wpAny_bind (wpAny_mkStr ?_ (by first | omega | (show t.length ≤ sizeLine; omega) | (simp at ht ⊢; omega)))
      refine wpAny_bind ?_
      show wpAny _ _ (updateSeq P _) _ _ _
      have hasz : acc.size ≤ sizeLine := by
        have e1 : acc.toList.length = acc.size := by simp
        have e2 : (strValues done).length = done.length := by simp [strValues]
        have hpl := done_le done
        rw [hacc] at e1; omega
      have hP' := hk' _ _ hP
      refine wpAny_updateSeq hP' rfl (wpAny_pure ⟨F.quiet_list_repr_loop _, ?_⟩) hasz
      have e1 : ((i : Int) + 1) = ((i + 1 : Nat) : Int) := by omega
      have e3 : piled ((done ++ [(t, tk)]).map (·.1)) = piled (done.map (·.1)) + (t.length + 2) := by
        rw [List.map_append, piled_append]
        simp [piled]
      have e2 : b + piled (done.map (·.1)) + (t.length + 2) = b + piled ((done ++ [(t, tk)]).map (·.1)) := by omega
      rw [e1, e2]
      refine ih (i + 1) _ oa na (acc.push (.str t tk)) _ C' (done ++ [(t, tk)]) (by omega) hlt ((Heap.get?_update_other _ _ (fun h : P = a => hne h.symm)).trans (hk' _ _ ha)) hda (Heap.get?_update_self _ hP' rfl) (by simp [hacc, strValues]) (by simp [hdone]) h2
        (fun bb o e => ⟨(hk0 bb o e).1, (Heap.get?_update_other _ _ (fun h : P = bb => (hk0 bb o e).1 h.symm)).trans (hk' _ _ (hk0 bb o e).2)⟩) (by rw [e3]; omega) fun t' h'' u tk' ht' hh => ?_
      exact hR t' h'' u tk' (by rw [e3] at ht'; omega) fun bb o hb e => hh bb o hb ((Heap.get?_update_other _ _ (fun h : P = bb => hb h.symm)).trans (hk' _ _ e))
end
end PySem
set_option Elab.async false
set_option linter.all false
set_option maxRecDepth 100000
set_option maxHeartbeats 4000000
/-! XStatic: staticmethods called through their class; x(*y) with the written part said. -/
namespace XL
open PySem PySem.Spec PyProof.Rows L2
/-- C.m is a staticmethod: its def at g -/
def SMet (K : PySem.W.Frag) (C : Addr) (mc : Value) (m : Str) (g : Addr) : Prop := ∃ p, PySem.W.findCls K (.ref C) mc m = some (.get (.builtin "staticmethod.__get__") (.ref p) .none (.ref C)) ∧ (∃ rest, PySem.W.recIn K p "staticmethod" = some (.ref g :: rest)) ∧ PySem.W.keepIn K (.ref g) = true
section
variable {X : Cx} {CX : CXT} {k : Nat} {C g : Addr} {mc : Value} {fd : FuncData} {ps : List Str} {sp : Sp} {E : XK} {o e : Expr} {es : List Expr} {m : Str} {pos apos : Pos} {ta : TE} {t : TA} {pl : Sem Bool}
theorem pe_smeth (he : PE X o ta) (r : ClX.CRead X.K C mc) (c : SMet X.K C mc m g) (F : FnOk X.prog X.w X.K X.mg X.base CX k g fd ps sp) (hr : Room k X.A) (hb : Binds X.K fd ps []) (hx : Passes CX X E) (ha : PA X (e :: es) t)
    (hst : starEach (e :: es) X.env = (false, eval e X.env) :: starEach es X.env := by rfl) (hpl : (backTo pos (starEach es X.env)).any (·.1) = false := by rfl)
    (ht : eval (.Call (.Attribute o m apos) (e :: es) [] pos) X.env = (do
      let ov ← eval o X.env
      standAt apos.atName
      let (f, first) ← holding [ov] (getMethod ov m pl)
      callWith pos f first (backTo pos (starEach (e :: es) X.env)) (backToKw pos (keywordEach [] X.env))) := by rfl) :
    PE X (.Call (.Attribute o m apos) (e :: es) [] pos) (fun σ H Q => ta σ H fun x H1 => x = .ref C ∧ t σ H1 fun vs H2 => sp vs H2 Q E) := by
  refine ⟨fun pins s σ H Q I h => ?_⟩
  refine PySem.W.methodCall_KW (pl := pl) (thn (he.run pins s σ H _ I h) fun u s1 ⟨x, H1, I1, rx, ex, q⟩ => ?_) ht
  subst ex
  obtain rfl : u = Value.ref C := rx
  obtain ⟨p, h1, ⟨rest, h2⟩, h3⟩ := c
  refine PySem.W.method_cls I1.kIn r.ga ?_
  refine PySem.W.cls_bind I1.kIn r.rd h1 ?_
  refine wpAny_call (PySem.W.sm_get (s := { s1 with toks := s1.toks + 1 }) I1.kIn h2 (PySem.W.handed_on rfl ?_))
  have I2 : L2.Inv X pins σ H1 { s1 with toks := s1.toks + 1 } := I1.tok _
  refine PySem.W.callWith_K (h₀ := X.base) I2.ok.mod.kin h3 (thn (ha.run pos pins _ σ H1 _ I2 q) fun us s3 ⟨vs, H2, I3, r3, q3⟩ => ⟨I3.kIn, ?_⟩) hst hpl
  exact run_fn (us := us) (vs := vs) (dvs := []) F hr hb .nil hx I3 r3 (show sp (vs ++ []) H2 Q E by rw [List.append_nil]; exact q3)
end
section
variable {X : Cx}
theorem sw_trueD {kx vx : Expr} {gs : List Comprehension} {scope : Scope} {pos py : Pos} {y : Str} {l : Nat} {env : Env} (hk : env.scope.kind = .function) (hy : env.scope.names.lookup y = some .local) (hl : (py.line == pos.line) = true)
    (ha : (scope.names.any fun (n, k) => n == y && (k == .local || k == .cell)) = false) : swapsWith (.DictComp kx vx gs scope pos) (some (.Name y py)) l env = pure true := by
  have ky : env.kindOf y = some .local := hy
  have hb : env.blockKind = .function := by unfold Env.blockKind; rw [hk]; rfl
  unfold swapsWith
  simp only [hb, ky, ha, Expr.pos, hl]
  rfl
/-- name = {..} on one line, the name a local -/
theorem ps_setDc {i : Nat} {y : Str} {py : Pos} {kx vx tg iter : Expr} {ifs : List Expr} {scope : Scope} {own : List (Str × Nat)} {pos spos : Pos} {wi : TI} {g : TG} {tt : TT} {tk tv : TE} (hc : X.calm = true) (hN : X.N.Nodup) (hy : X.N[i]? = some y) (hyl : X.env.scope.names.lookup y = some .local)
    (hsw : swapsWith (.DictComp kx vx [⟨tg, iter, ifs, 0⟩] scope pos) (some (.Name y py)) spos.line X.env = pure true) (hi : PI X tg iter wi) (ok : BlkOk X.N X.env.scope scope own)
    (hg : ∀ (s : Shared) (H : Hp) (C : Addr) (cl : List (Str × Addr)) (fp : List Addr), PG (X.blk s H scope (compEnvC scope cl C X.env) fp) tg g) (ht : ∀ (s : Shared) (H : Hp) (C : Addr) (cl : List (Str × Addr)) (fp : List Addr), PTs (X.blk s H scope (compEnvC scope cl C X.env) fp) ifs tt)
    (hk : ∀ (s : Shared) (H : Hp) (C : Addr) (cl : List (Str × Addr)) (fp : List Addr), PE (X.blk s H scope (compEnvC scope cl C X.env) fp) kx tk)
    (he : ∀ (s : Shared) (H : Hp) (C : Addr) (cl : List (Str × Addr)) (fp : List Addr), PE (X.blk s H scope (compEnvC scope cl C X.env) fp) vx tv) (hs : ∀ x, foldedSetIterable iter X.env x = pure x := by intro _; rfl) :
    PS X (.Assign [.Name y py] (.DictComp kx vx [⟨tg, iter, ifs, 0⟩] scope pos) spos) (tAsg (tDc wi g tt tk tv (own.map (·.2))) (gName i)) := by
  refine ⟨fun pins s σ H D I h => ?_⟩
  rw [exec_Assign_Name_used _ _ _ _ hsw]
  refine wpAny_bind (wpAny_standAt (wpAny_bind ?_))
  show wpAny _ X.A (do let _ ← comprehension (.DictComp kx vx [⟨tg, iter, ifs, 0⟩] scope pos) scope X.env (firstIterPos [⟨tg, iter, ifs, 0⟩] pos) newDict false (eval iter X.env) (some (assign (.Name y py) X.env))) _ _ s
  have h : tDc wi g tt tk tv (own.map (·.2)) σ H (fun x H1 => gName i x σ H1 D.nx) := h
  refine wpAny_bind (thn (dc_core (Qf := fun _ s' => SP X pins D .next s') hc hN I hi ok hg ht hk he hs h fun L C s' m H' I' q hn f => ?_) fun _ s' hq => wpAny_pure (wpAny_pure hq))
  show wpAny _ _ (assign (.Name y py) X.env (.ref L)) _ _ _
  refine wpAny_assign_Name (store_ok2 (v := V.ref L) I' hN hy (.inl hyl) rfl (fun s2 I2 ⟨a, sb, ha⟩ => ?_) (.inr hyl))
  obtain ⟨f0, f1, f2, f3, f4, f5⟩ := f
  have haC : C ≠ a := by
    rcases ha with z | z
    · rw [z]; exact f1
    · exact fun e => f4 y a z e.symm
  refine ⟨m, hn.sameBut sb haC, fun h3 sb3 => ?_⟩
  exact ⟨_, H', I2.turned (t' := s2.toks) (fun b o hb e => (sb3.2 b hb).trans e) f0 f1 f3 f4 f5, q⟩
end
section
variable {X : Cx} {CX : CXT} {k : Nat} {f : Addr} {sp : Sp} {E : XK} {x : Str} {p pos sp_ : Pos} {e : Expr} {te : TE}
theorem pe_callS1K (K : PySem.W.Frag) (F : FnR X.prog X.w X.K X.mg X.base CX k f sp) (hr : Room k X.A) (hk : PySem.W.keepIn X.K (.ref f) = true) (hg : Gl X x) (hm : X.mg x = some (.ref f)) (hx : Passes CX X E) (he : PE X e te) (hd : (x == ("__debug__" : Str)) = false := by decide)
    (hst : starEach [.Starred e sp_] X.env = [(true, eval e X.env)] := by rfl) (hK : X.K = K := by rfl) :
    PE X (.Call (.Name x p) [.Starred e sp_] [] pos) (fun σ H Q => te σ H fun y H1 => ∃ a xs, y = V.ref a ∧ (SqT K H1 a xs ∨ SqL K H1 a xs) ∧ sp xs H1 Q E) := hK ▸ StX.pe_callS1 F hr hk hg hm hx he hd hst
end
end XL
set_option Elab.async false
set_option linter.all false
set_option maxRecDepth 100000
set_option maxHeartbeats 4000000
/-! XArith: -x and x + y by own methods, x != y by an own __eq__ alone. -/
namespace PySem.W
open PyProof.Rows
section
variable {prog : Program} {w : World} {M : Model} {A : Around} {E : Value → Shared → Prop} {s : Shared} {K : Frag} {x C L f : Addr} {h₀ : Heap} {m : Str → Option Value} {ox : Obj} {od : Option Obj} {b : Value}
def firstIn (K : Frag) (C : Addr) : Bool := match clsIn K C with
  | some cd => (match cd.mro with | .ref D :: _ => D == C | _ => false)
  | none => false
theorem firstIn_self {K : Frag} {C : Addr} (h : selfFirst K C = true) : firstIn K C = true := by
  unfold selfFirst at h
  unfold firstIn
  cases e : clsIn K C with
  | none => rw [e] at h; cases h
  | some cd =>
    rw [e] at h
    have h2 : (cd.mro.head? == some (Value.ref C)) = true := h
    show (match cd.mro with | .ref D :: _ => D == C | _ => false) = true
    cases e2 : cd.mro with
    | nil => rw [e2] at h2; cases h2
    | cons v r =>
      rw [e2] at h2
      have h3 : some v = some (Value.ref C) := eq_of_beq h2
      cases h3
      exact beq_self_eq_true C
theorem fills_own {nm : String} {Q : Bool → Shared → Prop} (X : K.In s.heap) (hm : firstIn K C = true) (hs : findIn K (.ref C) (PySem.dunder nm) = some (some (.ref f))) (q : Q true s) : wpAny M A (fillsNumberSlot (.ref C) nm) Q E s := by
  unfold firstIn at hm
  split at hm
  · rename_i cd hc
    split at hm
    · rename_i D r hr
      have e : D = C := by simpa using hm
      subst e
      have LM : Looks M s.heap (mroOf (.ref D)) cd.mro := (looks_clsIn X hc).andThen .now
      unfold fillsNumberSlot
      refine wpAny_bind (LM.here ?_)
      rw [hr]
      unfold List.anyM
      refine wpAny_bind ?_
      unfold List.anyM
      refine wpAny_bind (wpAny_bind ((looks_findIn X hs).here ?_))
      simp only [ownNameWrapper]
      exact wpAny_pure (wpAny_pure (wpAny_pure q))
    · cases hm
  · cases hm
theorem special_own {name : Str} {args : List Value} {Q : Option Value → Shared → Prop} (X : K.In s.heap) (I : InstAt s.heap x ox C od) (hs : findIn K (.ref C) name = some (some (.ref f))) (hf : isFn K (.ref f) = true)
    (h : wpAny M A (call (.ref f) (.ref x :: args)) (fun v => Q (some v)) E s) : wpAny M A (callSpecial? (.ref x) name args) Q E s := special_fn X I hs (beq_iff_eq.mp hf) h
theorem add_K {Q : Value → Shared → Prop} {y : Addr} {oy : Obj} {ody : Option Obj} (F : Fr h₀ L s.heap m) (X₀ : K.In h₀) (I : InstAt s.heap x ox C od) (J : InstAt s.heap y oy C ody) (hm : firstIn K C = true)
    (hs : findIn K (.ref C) "__add__" = some (some (.ref f))) (hf : isFn K (.ref f) = true) (h : wpAny (model prog w) A (call (.ref f) [.ref x, .ref y]) (CmpBack Q) E s) : wpAny (model prog w) A (binaryOp .Add (.ref x) (.ref y)) Q E s := by
  have X := X₀.keeps F.keep
  unfold binaryOp
  refine wpAny_holding (wpAny_bind ?_)
  unfold binaryOp1
  refine wpAny_bind (I.type.here (wpAny_bind (J.type.here (wpAny_bind (fills_own X hm hs ?_)))))
  simp only [beq_self_eq_true, if_true]
  refine wpAny_bind (wpAny_pure ?_)
  simp only [Bool.and_false, Bool.false_eq_true, if_false, Bool.false_and, if_true]
  have one : wpAny (model prog w) A (tryMethod (.ref x) (PySem.dunder "add") (.ref y)) (fun r s' => ∃ v, r = some v ∧ Q v s') E s := by
    unfold tryMethod
    refine wpAny_bind (special_own X I hs hf (wpAny_mono h (fun v s' hv => ?_) fun _ _ e => e))
    cases v <;> first | exact hv.elim | exact wpAny_pure ⟨_, rfl, hv⟩
  refine wpAny_bind (wpAny_pure ?_)
  simp only [Bool.false_eq_true, if_false]
  refine wpAny_bind (wpAny_mono one (fun r s' z => ?_) fun _ _ e => e)
  obtain ⟨v, rfl, hq⟩ := z
  exact wpAny_pure (wpAny_pure hq)
theorem neg_K {Q : Value → Shared → Prop} (F : Fr h₀ L s.heap m) (X₀ : K.In h₀) (I : InstAt s.heap x ox C od)
    (hs : findIn K (.ref C) "__neg__" = some (some (.ref f))) (hf : isFn K (.ref f) = true) (h : wpAny (model prog w) A (call (.ref f) [.ref x]) Q E s) : wpAny (model prog w) A (unaryOp .USub (.ref x)) Q E s := by
  have X := X₀.keeps F.keep
  unfold unaryOp
  refine wpAny_holding ?_
  simp only []
  refine wpAny_bind (special_own X I hs hf (wpAny_mono h (fun v s' hv => wpAny_pure hv) fun _ _ e => e))
/-- object.__ne__ over an own __eq__ -/
theorem ne_entry {Q : Fin → Shared → Prop} {y : Addr} {b : Bool} (hu : A.units < cLine) (X : K.In s.heap) (I : InstAt s.heap x ox C od) (hs : findIn K (.ref C) "__eq__" = some (some (.ref f))) (hf : isFn K (.ref f) = true)
    (h : wpAny (model prog w) A (call (.ref f) [.ref x, .ref y]) (fun v s' => ∃ c, v = .bool c ∧ Q (.done (.ret (.bool (!c)))) s') E s) : wpAny (model prog w) A (Builtin.«object.__ne__» ⟨[.ref x, .ref y], []⟩) Q E s := by
  unfold Builtin.«object.__ne__»
  refine wpAny_bind (m := slotArgs "__ne__" 1 _) (wpAny_pure ?_)
  refine wpAny_bind (m := cRoomFor _ _) (wpAny_cRoomFor hu ?_)
  refine wpAny_bind (m := callSpecialIfBound? (.ref x) (Str.ofString "__eq__") _) (ifBound_K X I hs hf (wpAny_mono h (fun r s' hq => ?_) fun _ _ y => y))
  obtain ⟨c, rfl, hq⟩ := hq
  refine wpAny_bind (wpAny_truthy_bool ?_)
  exact wpAny_pure hq
theorem ifBound_B {name : Str} {id : String} {args : List Value} {Q : Option Value → Shared → Prop} (X : K.In s.heap) (I : InstAt s.heap x ox C od) (hs : findIn K (.ref C) name = some (some (.builtin id)))
    (hb : ∀ self, bindSpecial (.builtin id) self = pure (.builtin id, [self])) (h : wpAny M A (call (.builtin id) (.ref x :: args)) (fun v => Q (some v)) E s) : wpAny M A (callSpecialIfBound? (.ref x) name args) Q E s := by
  simp only [callSpecialIfBound?, bindSpecialIfBound?]
  refine wpAny_holding (wpAny_bind (wpAny_bind (wpAny_bind (I.type.here ((looks_findIn X hs).here ?_)))))
  refine wpAny_bind (wpAny_askSetting (wpAny_ite ?_))
  have fin : wpAny M A (call (.builtin id) ([.ref x] ++ args) >>= fun v => pure (some v)) Q E s := wpAny_bind (wpAny_mono h (fun v s' h' => wpAny_pure h') fun _ _ h' => h')
  split
  · exact wpAny_bind ((Looks.of_pure (hb _)).here (wpAny_pure (by exact fin)))
  · exact wpAny_tryCatch (wpAny_bind ((Looks.of_pure (hb _)).here (wpAny_pure (by exact fin))))
theorem ne_K {Q : Value → Shared → Prop} {y : Addr} {oy : Obj} {ody : Option Obj} (hu : A.units < cLine) (hu1 : A.in1.units < cLine) (F : Fr h₀ L s.heap m) (X₀ : K.In h₀) (I : InstAt s.heap x ox C od) (J : InstAt s.heap y oy C ody)
    (hn : findIn K (.ref C) "__ne__" = some (some (.builtin "object.__ne__"))) (hm : mroIn K C (.type "object") = some true)
    (hs : findIn K (.ref C) "__eq__" = some (some (.ref f))) (hf : isFn K (.ref f) = true)
    (h : wpAny (model prog w) A.in1 (call (.ref f) [.ref x, .ref y]) (fun v s' => ∃ c, v = .bool c ∧ Q (.bool (!c)) s') E s) : wpAny (model prog w) A (richCompare .NotEq (.ref x) (.ref y)) Q E s := by
  have X := X₀.keeps F.keep
  have one : wpAny (model prog w) A (tryCompare (.ref x) (cmpInfo .NotEq).2.1 (.ref y)) (fun r s' => ∃ v, r = some v ∧ Q v s') E s := by
    unfold tryCompare
    refine wpAny_bind (ifBound_B X I hn PySem.F.slot_object_ne.bind (wpAny_call (codeAny_call_builtin PySem.F.slot_object_ne.plain PySem.F.cmpEntry_ne (check_slot (i := "object.__ne__") (owner := "object") (n := "__ne__") (by decide +kernel) (by decide +kernel) (I.type.andThen (looks_mroIn X hm)) (PySem.F.cmpArgs_ne _ _) (ne_entry (b := true) hu1 X I hs hf (wpAny_mono h (fun v s' hv => ?_) fun _ _ e => e))))))
    obtain ⟨c, rfl, hq⟩ := hv
    refine ⟨c, rfl, ?_⟩
    exact wpAny_pure ⟨_, rfl, hq⟩
  unfold richCompare
  simp only [oneThing_ref]
  refine wpAny_holding (wpAny_bind (wpAny_cRoomFor hu ?_))
  refine wpAny_bind (I.type.here (wpAny_bind (J.type.here ?_)))
  rw [if_neg (by simp)]
  refine wpAny_bind (wpAny_pure ?_)
  simp only [Bool.false_eq_true, if_false]
  refine wpAny_bind (wpAny_mono one (fun r s' z => ?_) fun _ _ e => e)
  obtain ⟨v, rfl, hq⟩ := z
  exact wpAny_pure hq
end
end PySem.W
namespace XL
open PySem PySem.Spec PyProof.Rows L2
section
variable {X : Cx} {CX : CXT} {C f : Addr} {fd : FuncData} {ps : List Str} {sp : Sp} {E : XK} {n : Nat}
/-- -x by an own __neg__ -/
def yNegO (C : Addr) (sp : Sp) (E : XK) : V → Hp → VK → Prop := fun x H Q => ∃ a dx fs, x = .ref a ∧ H a = some (.ins C dx fs) ∧ sp [.ref a] H Q E
theorem un_negO (F : FnOk X.prog X.w X.K X.mg X.base CX n f fd ps sp) (hs : PySem.W.findIn X.K (.ref C) "__neg__" = some (some (.ref f))) (hf : PySem.W.isFn X.K (.ref f) = true) (hb : Binds X.K fd ps []) (hx : Passes CX X E) (hr : Room n X.A) : UnR X (unaryOp .USub) (yNegO C sp E) := by
  intro pins s σ H x v Q I rx h
  obtain ⟨a, dx, fs, rfl, ha, hsp⟩ := h
  cases rx
  obtain ⟨mA, J1, _⟩ := ins_get I.hok ha
  obtain ⟨od, J1, _⟩ := J1.look
  obtain ⟨m, hF⟩ := I.fr
  exact PySem.W.neg_K hF I.ok.mod.kin J1 hs hf (run_fn (us := [.ref a]) (vs := [.ref a]) (dvs := []) F hr hb .nil hx I (.cons rfl .nil) hsp)
/-- x + y by an own __add__, both of class C -/
def yAddO (C : Addr) (sp : Sp) (E : XK) : R2 := yOwn C sp E
theorem op_addO (F : FnOk X.prog X.w X.K X.mg X.base CX n f fd ps sp) (hm : PySem.W.firstIn X.K C = true) (hs : PySem.W.findIn X.K (.ref C) "__add__" = some (some (.ref f))) (hf : PySem.W.isFn X.K (.ref f) = true) (hb : Binds X.K fd ps []) (hx : Passes CX X E) (hr : Room n X.A) : OpR X (binaryOp .Add) (yAddO C sp E) := by
  intro pins s σ H x y u v Q I rx ry h
  obtain ⟨a, b, dx, dy, fs, gs, rfl, rfl, ha, hb', hsp⟩ := h
  cases rx
  cases ry
  obtain ⟨mA, J1, _⟩ := ins_get I.hok ha
  obtain ⟨mB, J2, _⟩ := ins_get I.hok hb'
  obtain ⟨od, J1, _⟩ := J1.look
  obtain ⟨od', J2, _⟩ := J2.look
  obtain ⟨m, hF⟩ := I.fr
  refine PySem.W.add_K hF I.ok.mod.kin J1 J2 hm hs hf ?_
  refine wpAny_mono (run_fn (us := [.ref a, .ref b]) (vs := [.ref a, .ref b]) (dvs := []) F hr hb .nil hx I (.cons rfl (.cons rfl .nil)) hsp) (fun v s' q => ?_) fun _ _ e => e
  obtain ⟨z, H', I', rz, q⟩ := q
  have fin : EP X pins σ Q v s' := ⟨z, H', I', rz, q⟩
  cases v <;> first | exact fin | (cases z <;> first | exact absurd (show _ = _ from rz) (by intro e; cases e) | (obtain ⟨_, e⟩ := rz; cases e))
theorem run_in1 {pins : List (Addr × Obj)} {σ : L2.St} {H : Hp} {s : Shared} {Q : VK} {us : List Value} {vs : List V} (F : FnOk X.prog X.w X.K X.mg X.base CX n f fd ps sp) (hr : Room n X.A.in1) (hb : Binds X.K fd ps []) (hx : Passes CX X E)
    (I : Inv X pins σ H s) (r : Vals vs us) (h : sp vs H Q E) : wpAny (model X.prog X.w) X.A.in1 (call (.ref f) us) (EP X pins σ Q) X.xe s := by
  have hl : us.length = ps.length := by rw [← r.length]; exact F.len _ _ _ _ h
  have b := hb s us I.kIn (by rw [List.append_nil]; exact hl)
  rw [List.append_nil] at b
  refine wpAny_call (codeAny_mono (F.run X.A.in1 X.stack s H ⟨us, []⟩ us vs Q E hr I.env0.in1 b r h) fun r s' hq => ?_)
  cases r with
  | error e => exact hx pins σ _ _ e s' I hq
  | ok fl =>
    cases fl with
    | ret u => exact I.after hq
    | next => exact False.elim hq
    | brk => exact False.elim hq
    | cont => exact False.elim hq
/-- x != y by an own __eq__ alone, both of class C -/
def yNeO (C : Addr) (sp : Sp) (E : XK) : R2 := fun x y H Q => ∃ a b dx dy fs gs, x = .ref a ∧ y = .ref b ∧ H a = some (.ins C dx fs) ∧ H b = some (.ins C dy gs) ∧ sp [.ref a, .ref b] H (fun v H' => match v with
  | .bl b => Q (.bl (!b)) H'
  | _ => False) E
theorem op_neO (F : FnOk X.prog X.w X.K X.mg X.base CX n f fd ps sp) (hn : PySem.W.findIn X.K (.ref C) "__ne__" = some (some (.builtin "object.__ne__"))) (hm : PySem.W.mroIn X.K C (.type "object") = some true)
    (hs : PySem.W.findIn X.K (.ref C) "__eq__" = some (some (.ref f))) (hf : PySem.W.isFn X.K (.ref f) = true) (hb : Binds X.K fd ps []) (hx : Passes CX X E) (hr : Room (n + 1) X.A) : OpR X (compareOp .NotEq) (yNeO C sp E) := by
  intro pins s σ H x y u v Q I rx ry h
  obtain ⟨a, b, dx, dy, fs, gs, rfl, rfl, ha, hb', hsp⟩ := h
  cases rx
  cases ry
  show wpAny _ _ (richCompare .NotEq (.ref a) (.ref b)) _ _ _
  obtain ⟨mA, J1, _⟩ := ins_get I.hok ha
  obtain ⟨mB, J2, _⟩ := ins_get I.hok hb'
  obtain ⟨od, J1, _⟩ := J1.look
  obtain ⟨od', J2, _⟩ := J2.look
  obtain ⟨m, hF⟩ := I.fr
  refine PySem.W.ne_K hr.units0 hr.in1.units0 hF I.ok.mod.kin J1 J2 hn hm hs hf ?_
  refine wpAny_mono (run_in1 (us := [.ref a, .ref b]) (vs := [.ref a, .ref b]) F hr.in1 hb hx I (.cons rfl (.cons rfl .nil)) hsp) (fun v s' q => ?_) fun _ _ e => e
  obtain ⟨z, H', I', rz, q⟩ := q
  cases z with
  | bl c =>
    cases rz
    exact ⟨c, rfl, .bl (!c), H', I', rfl, q⟩
  | _ => exact q.elim
/-- x + y within a try -/
def tAddOT (C : Addr) (sp : Sp) (E : L2.St → XK) (ta tb : TE) : TE := fun σ H Q => ta σ H fun x H1 => tb σ H1 fun y H2 => yOwn C sp (E σ) x y H2 Q
theorem pe_addOT {E : L2.St → XK} {a b : Expr} {ta tb : TE} {pos : Pos} (hla : PE X a ta) (hlb : PE X b tb) (F : FnOk X.prog X.w X.K X.mg X.base CX n f fd ps sp) (hm : PySem.W.firstIn X.K C = true) (hs : PySem.W.findIn X.K (.ref C) "__add__" = some (some (.ref f))) (hf : PySem.W.isFn X.K (.ref f) = true) (hb : Binds X.K fd ps []) (hx : ∀ σ, PassesAt CX X σ (E σ)) (hr : Room n X.A) :
    PE X (.BinOp a .Add b pos) (tAddOT C sp E ta tb) := by
  refine ⟨fun pins s σ H Q I h => ?_⟩
  refine wpAny_BinOp (binT hla hlb I h fun v u s2 x y H2 I2 rx ry q => ?_)
  obtain ⟨a, b, dx, dy, fs, gs, rfl, rfl, ha, hb', hsp⟩ := q
  cases rx
  cases ry
  obtain ⟨mA, J1, _⟩ := ins_get I2.hok ha
  obtain ⟨mB, J2, _⟩ := ins_get I2.hok hb'
  obtain ⟨od, J1, _⟩ := J1.look
  obtain ⟨od', J2, _⟩ := J2.look
  obtain ⟨m, hF⟩ := I2.fr
  refine PySem.W.add_K hF I2.ok.mod.kin J1 J2 hm hs hf ?_
  have hl : ([Value.ref a, .ref b] ++ []).length = ps.length := F.len _ _ _ _ hsp
  refine wpAny_mono (Q := EP X pins σ Q) (wpAny_call (codeAny_mono (F.run X.A X.stack s2 H2 ⟨[.ref a, .ref b], []⟩ [.ref a, .ref b] [.ref a, .ref b] Q (E σ) hr I2.env0 (hb s2 [.ref a, .ref b] I2.kIn hl) (.cons rfl (.cons rfl .nil)) hsp) fun r s' hq => ?_)) (fun v s' q => ?_) fun _ _ e => e
  · cases r with
    | error e => exact hx σ pins H2 s2 e s' I2 hq
    | ok fl =>
      cases fl with
      | ret u => exact I2.after hq
      | next => exact False.elim hq
      | brk => exact False.elim hq
      | cont => exact False.elim hq
  obtain ⟨z, H', I', rz, q⟩ := q
  have fin : EP X pins σ Q v s' := ⟨z, H', I', rz, q⟩
  cases v <;> first | exact fin | (cases z <;> first | exact absurd (show _ = _ from rz) (by intro e; cases e) | (obtain ⟨_, e⟩ := rz; cases e))
end
end XL
set_option Elab.async false
set_option linter.all false
set_option maxRecDepth 100000
set_option maxHeartbeats 4000000
/-! XForm: str(x) of an int, a text or an instance with an own __str__; own __call__ and classmethods within a try; repr of a dict by name. -/
namespace XL
open PySem PySem.Spec PyProof.Rows L2
section
variable {X : Cx} {CX : CXT} {C f : Addr} {fd : FuncData} {ps : List Str} {sp : Sp} {E : XK} {n : Nat}
/-- str(x), x an int or a text -/
theorem cr_strSI : CallR X (.type "str") (fun xs H Q => yStr xs H Q ∨ ∃ a, xs = [.str a] ∧ Q (.str a) H) := cr_or cr_strI SkE.call_str_str
/-- str(x), x an instance of C with an own __str__ -/
theorem cr_strO (F : FnOk X.prog X.w X.K X.mg X.base CX n f fd ps sp) (hs : PySem.W.findIn X.K (.ref C) "__str__" = some (some (.ref f))) (hf : PySem.W.isFn X.K (.ref f) = true) (hb : Binds X.K fd ps []) (hx : Passes CX X E) (hr : Room (n + 2) X.A) :
    CallR X (.type "str") (fun xs H Q => ∃ a dx fs, xs = [.ref a] ∧ H a = some (.ins C dx fs) ∧ sp [.ref a] H (fun z H' => ∃ i, z = .str i ∧ Q z H') E) := by
  intro pins s σ H xs us Q I r h
  obtain ⟨a, dx, fs, rfl, ha, q⟩ := h
  obtain ⟨u, rfl, ru⟩ := r.one
  cases (show u = Value.ref a from ru)
  obtain ⟨mA, O, _⟩ := ins_get I.hok ha
  obtain ⟨od, J, _⟩ := O.look
  have hr2 : Room n X.A.in1.in1 := (show Room (n + 1) X.A.in1 from Room.in1 hr).in1
  refine PySem.W.kso_call hr2.units0 I.kIn J hs hf (wpAny_mono (wpAny_call (SlX.run_at (us := [.ref a]) (ws := [.ref a]) (FnOk.raw F hb .nil) hr2 I.env0.in1.in1 hx I (.cons rfl .nil) (by rw [List.append_nil]; exact q))) (fun w s' z => ?_) fun _ _ x => x)
  obtain ⟨z', H', I', rz, i, ei, qz⟩ := z
  subst ei
  obtain ⟨t, e⟩ := (show ∃ t, w = Value.str i t from rz)
  cases e
  exact ⟨.str i, H', I', ⟨t, rfl⟩, qz⟩
end
section
variable {X : Cx} {CX : CXT} {C f g p : Addr} {mc : Value} {fd : FuncData} {ps : List Str} {ds : List Value} {dvs : List V} {sp : Sp} {n k : Nat} {fe o e : Expr} {es : List Expr} {tf ta : TE} {t : TA} {pos apos : Pos} {m : Str} {pl : Sem Bool}
/-- f(e, ..), f an instance of C with an own __call__, within a try -/
def tCallOT (C : Addr) (sp : Sp) (E : L2.St → XK) (tf : TE) (t : TA) : TE := fun σ H Q => tf σ H fun y H1 => ∃ a, y = V.ref a ∧ t σ H1 fun vs H2 => (∃ dx fs, H2 a = some (.ins C dx fs)) ∧ sp (V.ref a :: vs) H2 Q (E σ)
theorem pe_callOT {E : L2.St → XK} (hf : PE X fe tf) (c : StX.CallO X.K C f) (F : FnOk X.prog X.w X.K X.mg X.base CX n f fd ps sp) (hr : Room n X.A) (hb : Binds X.K fd ps []) (hx : ∀ σ, PassesAt CX X σ (E σ)) (ha : PA X (e :: es) t)
    (ht : eval (.Call fe (e :: es) [] pos) X.env = (do callWith pos (← eval fe X.env) [] (backTo pos (starEach (e :: es) X.env)) (backToKw pos (keywordEach [] X.env))) := by rfl)
    (he : starEach (e :: es) X.env = (false, eval e X.env) :: starEach es X.env := by rfl) (hpl : (backTo pos (starEach es X.env)).any (·.1) = false := by rfl) : PE X (.Call fe (e :: es) [] pos) (tCallOT C sp E tf t) := by
  refine ⟨fun pins s σ H Q I h => ?_⟩
  refine PyProof.Rows.Call_ (thn (hf.run pins s σ H _ I h) fun u s1 ⟨y, H1, I1, ry, a, ey, q⟩ => ?_) ht
  subst ey
  obtain rfl : u = Value.ref a := ry
  refine StX.callO_with (thn (ha.run pos pins s1 σ H1 _ I1 q) fun us s2 ⟨vs, H2, I2, r, ⟨dx, fs, hi⟩, q2⟩ => ?_) he hpl
  obtain ⟨ox, od, J, hd⟩ := StX.insC_at (C := C) I2 (.inr ⟨dx, fs, hi⟩)
  refine ⟨⟨C, ox, od, J, hd⟩, wpAny_call (PySem.W.kco_code I2.kIn J hd c.at_ c.fn c.fi ?_)⟩
  have R := FnOk.raw F hb .nil
  refine codeAny_mono (R X.A X.stack s2 H2 (.ref a :: us) (.ref a :: vs) Q (E σ) hr I2.env0 (.cons rfl r) (show sp ((V.ref a :: vs) ++ []) H2 Q (E σ) by rw [List.append_nil]; exact q2)) fun r s' hq => ?_
  cases r with
  | error e => exact hx σ pins H2 s2 e s' I2 hq
  | ok fl =>
    cases fl with
    | ret u => exact I2.after hq
    | next => exact False.elim hq
    | brk => exact False.elim hq
    | cont => exact False.elim hq
/-- x(e, ..), x a local name that holds the class at C -/
def tMakeL (C : Addr) (sp : Sp) (dvs : List V) (E : XK) (tf : TE) (t : TA) : TE := fun σ H Q => tf σ H fun y H1 => y = V.ref C ∧ tMake C sp dvs E t σ H1 Q
theorem pe_makeL {E : XK} (hf : PE X fe tf) (M : Mk X.K C f) (F : FnOk X.prog X.w X.K X.mg X.base CX k f fd ps sp) (hr : Room (k + 1) X.A) (hb : Binds X.K fd ps ds) (hd : Vals dvs ds) (hx : Passes CX X E) (ha : PA X (e :: es) t)
    (ht : eval (.Call fe (e :: es) [] pos) X.env = (do callWith pos (← eval fe X.env) [] (backTo pos (starEach (e :: es) X.env)) (backToKw pos (keywordEach [] X.env))) := by rfl)
    (he : starEach (e :: es) X.env = (false, eval e X.env) :: starEach es X.env := by rfl) (hpl : (backTo pos (starEach es X.env)).any (·.1) = false := by rfl) : PE X (.Call fe (e :: es) [] pos) (tMakeL C sp dvs E tf t) := by
  refine ⟨fun pins s σ H Q I h => ?_⟩
  refine PyProof.Rows.Call_ (thn (hf.run pins s σ H _ I h) fun u s1 ⟨y, H1, I1, ry, ey, q⟩ => ?_) ht
  subst ey
  obtain rfl : u = Value.ref C := ry
  refine PySem.W.callWith_K (h₀ := X.base) I1.ok.mod.kin M.kp (thn (ha.run pos pins s1 σ H1 _ I1 q) fun us s2 ⟨vs, H2, I2, r, q2⟩ => ⟨I2.kIn, ?_⟩) he hpl
  exact run_make M F hr hb hd hx I2 r q2
/-- C.m(e, ..), m a classmethod, within a try -/
def tCMethT (C : Addr) (sp : Sp) (E : L2.St → XK) (ta : TE) (t : TA) : TE := fun σ H Q => ta σ H fun x H1 => x = .ref C ∧ t σ H1 fun vs H2 => sp (.ref C :: vs) H2 Q (E σ)
theorem run_cmT {pins : List (Addr × Obj)} {σ : L2.St} {H : Hp} {s : Shared} {q : Addr} {E : XK} {Q : VK} {us : List Value} {vs : List V} (F : FnR X.prog X.w X.K X.mg X.base CX k g sp) (hr : Room k X.A) (hx : PassesAt CX X σ E) (I : Inv X ((q, PySem.W.methodObj (.ref g) (.ref C)) :: pins) σ H s)
    (r : Vals vs us) (h : sp (.ref C :: vs) H Q E) : wpAny (model X.prog X.w) X.A (call (.ref q) us) (EP X pins σ Q) X.xe s := by
  have z : wpAny (model X.prog X.w) X.A (call (.ref q) us) (EP X ((q, PySem.W.methodObj (.ref g) (.ref C)) :: pins) σ Q) X.xe s := by
    refine wpAny_call (PySem.W.method_call (ClX.pin_at I) ?_)
    refine codeAny_mono (F X.A X.stack s H (.ref C :: us) (.ref C :: vs) Q E hr I.env0 (.cons rfl r) h) fun r s' hq => ?_
    cases r with
    | error e => exact hx _ H s e s' I hq
    | ok fl =>
      cases fl with
      | ret u => exact I.after hq
      | next => exact False.elim hq
      | brk => exact False.elim hq
      | cont => exact False.elim hq
  exact thn z fun _ _ y => ClX.unpinE y
theorem pe_cmethT {E : L2.St → XK} (he : PE X o ta) (r : ClX.CRead X.K C mc) (c : ClX.CMet X.K C mc m p g) (F : FnR X.prog X.w X.K X.mg X.base CX k g sp) (hr : Room k X.A) (hx : ∀ σ, PassesAt CX X σ (E σ)) (ha : PA X (e :: es) t)
    (hst : starEach (e :: es) X.env = (false, eval e X.env) :: starEach es X.env := by rfl) (hpl : (backTo pos (starEach es X.env)).any (·.1) = false := by rfl)
    (ht : eval (.Call (.Attribute o m apos) (e :: es) [] pos) X.env = (do
      let ov ← eval o X.env
      standAt apos.atName
      let (f, first) ← holding [ov] (getMethod ov m pl)
      callWith pos f first (backTo pos (starEach (e :: es) X.env)) (backToKw pos (keywordEach [] X.env))) := by rfl) :
    PE X (.Call (.Attribute o m apos) (e :: es) [] pos) (tCMethT C sp E ta t) := by
  refine ⟨fun pins s σ H Q I h => ?_⟩
  refine PySem.W.methodCall_KW (pl := pl) (thn (he.run pins s σ H _ I h) fun u s1 ⟨x, H1, I1, rx, ex, q⟩ => ?_) ht
  subst ex
  obtain rfl : u = Value.ref C := rx
  refine ClX.getmethcm_ok I1 r c fun s2 I2 => ?_
  refine ClX.callwith_cm I2 (ClX.base_none I1 (Nat.le_refl _)) c.fi (thn (ha.run pos _ s2 σ H1 _ I2 q) fun us s3 ⟨vs, H2, I3, rv, q2⟩ => ⟨⟨ClX.pin_at I3, I3.kIn⟩, ?_⟩) hst hpl
  exact run_cmT F hr (hx σ) I3 rv q2
end
section
variable {P : Program} {w : World} {K : PySem.W.Frag} {mg : Str → Option Value} {base : Heap}
/-- a def with a star parameter that may raise -/
theorem okSX {x qual : Str} {st : Stmt} {f : Addr} {fd : FuncData} {N ps : List Str} {pv : Str} {k : Nat} {sp : Sp} (F : Fun K x qual st f fd) (S : FnScope N (ps ++ [pv]) (defScope st)) (hb : BindsS fd ps pv)
    (hbody : ∀ (cdv : Value) (A : Around) (outer : List Env) (s : Shared) (H : Hp) (vs : List V) (Q : VK) (E : XK), Room k (A.deeper (envOfC qual (defScope st) s.heap.objs.size f cdv)) → sp vs H Q E →
      ∃ t, PSs (cxOf (L2.CX P w) P w K mg base N qual (defScope st) f cdv A outer s H E) (defBody st) t ∧ t { nx := fun _ H' => Q .non H', rt := Q } (L2.start N vs) H) : FnR P w K mg base (L2.CX P w) (k + 1) f (spS ps.length sp) := by
  obtain ⟨oc, od, kV, doc, pm, an, cdv, ct, osl, rfl, lk, hcd⟩ := F.ex
  exact StX.fn_star (pv := pv) (ps := ps) lk hcd S StX.cxUp hb fun A outer s H vs Q E hr hsp => hbody cdv A outer s H vs Q E hr hsp
end
section
variable {B : List Value → Sem (List (Str × Value))} {p1 p2 pv : Str}
theorem bindS2 (h0 : ∀ a b, B [a, b] = (newTuple [] >>= fun t => pure [(p1, a), (p2, b), (pv, t)])) (h1 : ∀ a b r rs, B (a :: b :: r :: rs) = (newTuple (r :: rs) >>= fun t => pure [(p1, a), (p2, b), (pv, t)])) :
    ∀ us rest : List Value, us.length = [p1, p2].length → B (us ++ rest) = (newTuple rest >>= fun t => pure ([p1, p2].zip us ++ [(pv, t)]))
  | [a, b], [], _ => h0 a b
  | [a, b], r :: rs, _ => h1 a b r rs
end
/-! ### repr of a dict by name -/
def dDat (kvs : List (Str × Int)) : PyData := .dict (kvs.map fun p => (.str p.1, .int p.2))
def dKv (kvs : List (Str × Int)) : List (Key × V) := kvs.map fun p => (Sum.inr p.1, V.int p.2)
def rReprDk : List V → Hp → VK → Prop := fun xs H Q => ∃ a kvs, xs = [.ref a] ∧ H a = some (.dK (dKv kvs)) ∧ (dDat kvs).showable = true ∧ (dDat kvs).depth ≤ 64 ∧ (dDat kvs).shown.length ≤ sizeLine ∧ Q (.str (dDat kvs).shown) H
theorem reads_dk {P : Program} {w : World} {h : Heap} : ∀ {es : List DictEntry} {vs : List (Key × Value)} {kvs : List (Str × Int)}, Pairs (mixKind P w) es vs → KV (dKv kvs) vs →
    ReadsAll h (es.map (·.key)) ((kvs.map fun p => ((.str p.1, .int p.2) : PyData × PyData)).map (·.1)) [] ∧ ReadsAll h (es.map (·.val)) ((kvs.map fun p => ((.str p.1, .int p.2) : PyData × PyData)).map (·.2)) []
  | _, _, [], p, r => by
    cases r
    cases p
    exact ⟨.nil, .nil⟩
  | _, _, kv :: kvs, p, r => by
    cases r with
    | cons h1 t1 =>
      cases p with
      | cons k1 k2 p2 =>
        obtain ⟨i1, i2⟩ := reads_dk p2 t1
        obtain ⟨e1, e2⟩ := h1
        rw [← e1] at k1
        have k1 : keyIs (Sum.inr kv.1) _ = true := k1
        rcases keyIs_shape k1 with ⟨i, t, z, _⟩ | ⟨x, t, z, ek⟩
        · cases z
        · cases z
          obtain ⟨t2, e3⟩ := (show ∃ t, _ = Value.int kv.2 t from e2)
          have ev := k2.trans e3
          refine ⟨?_, ?_⟩
          · rw [List.map_cons, List.map_cons, List.map_cons, ek]
            exact .cons (.str _ _) i1
          · rw [List.map_cons, List.map_cons, List.map_cons, ev]
            exact .cons (.int _ _) i2
theorem call_reprDk {X : Cx} (hg : X.A.guards = some []) (hu : X.A.units + 70 < cLine) : CallR X (.builtin "repr") rReprDk := by
  intro pins s σ H xs us Q I r h
  obtain ⟨a, kvs, rfl, ha, h1, h3, h4, q⟩ := h
  obtain ⟨u, rfl, ru⟩ := r.one
  cases (show u = Value.ref a from ru)
  obtain ⟨z, hs, vs, rel, o, es, ep, ho, hex, hdat, _, hp, _⟩ := dk_of I.hok ha
  obtain ⟨i1, i2⟩ := reads_dk (h := s.heap) hp rel
  have rd : Reads s.heap (.ref a) (dDat kvs) (a :: [] ++ []) := .dict ho hex.1 hdat i1 i2
  refine repr_of_reads' rd h1 (fun _ hm => ?_) hg (by omega) (fun _ _ e => e) (fun h' t tk hk => ⟨.str (dDat kvs).shown, H, I.kept hk, ⟨_, rfl⟩, q⟩) h4
  have : sysModules = a := by simpa using hm
  rw [this] at hs
  simp at hs
end XL
set_option Elab.async false
set_option linter.all false
set_option maxRecDepth 100000
set_option maxHeartbeats 4000000
/-! XReprE: data with lists of anything and empty dicts: their repr, in a message and by repr(). -/
namespace PySem
open Sem
mutual
def okE : PyData → Bool
  | .tuple xs => okEs xs
  | .list xs => okEs xs
  | .dict l => l.isEmpty
  | _ => true
def okEs : List PyData → Bool
  | [] => true
  | x :: r => okE x && okEs r
end
mutual
/-- how long the text can be -/
def tbE : PyData → Nat
  | .tuple xs => tbEs xs + 7
  | .list xs => tbEs xs + 7
  | d => d.shown.length + 7
def tbEs : List PyData → Nat
  | [] => 0
  | x :: r => tbE x + 2 + tbEs r
end
mutual
inductive RdE (h : Heap) : Value → PyData → Prop
  | none : RdE h .none .none
  | bool (b) : RdE h (.bool b) (.bool b)
  | int (i t) : RdE h (.int i t) (.int i)
  | str (x t) : RdE h (.str x t) (.str x)
  | list {a o vs n xs} : h.get? a = some o → o.cls = .type "list" → o.data = .seq vs n → RdEs h vs.toList xs → RdE h (.ref a) (.list xs)
  | tuple {a o vs n xs} : h.get? a = some o → o.cls = .type "tuple" → o.data = .seq vs n → RdEs h vs.toList xs → RdE h (.ref a) (.tuple xs)
  | emp {a o n} : h.get? a = some o → o.cls = .type "dict" → o.data = .dict #[] n → (a == sysModules) = false → RdE h (.ref a) (.dict [])
inductive RdEs (h : Heap) : List Value → List PyData → Prop
  | nil : RdEs h [] []
  | cons {v vs d ds} : RdE h v d → RdEs h vs ds → RdEs h (v :: vs) (d :: ds)
end
section
variable {prog : Program} {w : World} {h₀ : Heap}
mutual
theorem RdE.reads : ∀ {d : PyData} {v : Value}, RdE h₀ v d → ∃ as, Reads h₀ v d as
  | _, _, .none => ⟨_, .none⟩
  | _, _, .bool b => ⟨_, .bool b⟩
  | _, _, .int i t => ⟨_, .int i t⟩
  | _, _, .str x t => ⟨_, .str x t⟩
  | _, _, .list h1 h2 h3 h4 => let ⟨_, q⟩ := RdEs.reads h4; ⟨_, .list h1 h2 h3 q⟩
  | _, _, .tuple h1 h2 h3 h4 => let ⟨_, q⟩ := RdEs.reads h4; ⟨_, .tuple h1 h2 h3 q⟩
  | _, _, .emp h1 h2 h3 _ => ⟨_, .dict h1 h2 h3 .nil .nil⟩
theorem RdEs.reads : ∀ {ds : List PyData} {vs : List Value}, RdEs h₀ vs ds → ∃ as, ReadsAll h₀ vs ds as
  | _, _, .nil => ⟨_, .nil⟩
  | _, _, .cons h1 h2 => let ⟨_, q⟩ := RdE.reads h1; let ⟨_, q2⟩ := RdEs.reads h2; ⟨_, .cons q q2⟩
end
theorem leafE {v : Value} {d : PyData} (r : RdE h₀ v d) (hp : plainD d = true) (hs : d.showable = true) (hz : d.shown.length ≤ sizeLine) : ReprIs prog w v d.shown := by
  obtain ⟨as, q⟩ := r.reads
  exact leaf_is q hp hs hz
theorem wpAny_list_reprL {a : Addr} {oa : Obj} {x : Value} {l : List Value} {na C d : Nat} {A : Around} {s : Shared} {R : Result → Shared → Prop} {base : Nat}
    (ha : h₀.get? a = some oa) (hda : oa.data = .seq (x :: l).toArray na) (hT : RXs prog w h₀ d (x :: l) C) (hk0 : ∀ b o, h₀.get? b = some o → s.heap.get? b = some o) (hu : A.units + 1 + d < cLine)
    (hR : ∀ t h' u tk, t.length ≤ C + 7 → (∀ b o, s.heap.get? b = some o → h'.get? b = some o) → R (.ok (.ret (.str t u))) { s with heap := h', toks := tk }) (hsz : base + (C + 7) ≤ sizeLine) :
    wpAny (model prog w) A.in1 (Builtin.listReprAt base ⟨[.ref a], []⟩) (fun fin s' => match fin with | .done f => R (.ok f) s' | .again c' => c'.quiet = true ∧ codeAny (model prog w) A c' R s') (fun e s' => R (.error e) s') s := by
  have ha' := hk0 _ _ ha
  refine wpAny_list_repr_in ha' hda ?_ ?_
  · refine wpAny_bind (m := newList []) (wpAny_newObj_type ?_)
    refine wpAny_pure ⟨F.quiet_list_repr_loop _, ?_⟩
    have lt := Heap.lt_size ha'
    have z := codeAny_list_repr_loopX (prog := prog) (w := w) (A := A) (R := R) (h₀ := h₀) (d := d) (a := a) (P := s.heap.objs.size) (Nat.ne_of_lt lt) (items := (x :: l).toArray) (b := base) hu (x :: l).toArray.size 0
      { s with heap := s.heap.push { cls := .type "list", data := .seq #[] } } oa na #[] 0 C [] (by simp) (Nat.zero_le _) (Heap.get?_push_of_some _ ha') hda (Heap.get?_push_size _ rfl) rfl rfl (by simpa using hT)
      (fun b o e => ⟨Nat.ne_of_lt (Heap.lt_size (hk0 _ _ e)), Heap.get?_push_of_some _ (hk0 _ _ e)⟩) (by simp [piled]; omega)
      (fun t h' u tk ht hk => hR t h' u tk (by simp [piled] at ht; omega) fun b o e => hk b o (Nat.ne_of_lt (Heap.lt_size e)) (Heap.get?_push_of_some _ e))
    simpa [piled] using z
  · refine wpAny_bind (wpAny_rule ?_)
    unfold retStr
    refine wpAny_bind (wpAny_mkStr (wpAny_pure ?_) (by decide))
    exact hR "[...]" s.heap s.toks (s.toks + 1) (by have : (("[...]" : String) : Str).length = 5 := rfl; omega) (fun _ _ e => e)
theorem wpOwn_dict_repr0 {a : Addr} {o : Obj} {n : Nat} (ha : h₀.get? a = some o) (hc : o.cls = .type "dict") (hd : o.data = .dict #[] n) (hsys : (a == sysModules) = false)
    {A : Around} {g : List Code} {s : Shared} {R : Result → Shared → Prop} {base : Nat} {id : String} {rest : List Value}
    (hcg : (Code.builtin id ⟨.ref a :: rest, []⟩).isGuard = true) (hcu : (A.under (.builtin id ⟨.ref a :: rest, []⟩)).units = A.units + 1)
    (hg : A.guards = some g) (hk0 : ∀ b o, h₀.get? b = some o → s.heap.get? b = some o)
    (hR : ∀ t u tk, t.length ≤ 5 → R (.ok (.ret (.str t u))) { s with toks := tk }) :
    wpOwn (model prog w) A (.builtin id ⟨.ref a :: rest, []⟩) (Builtin.dictReprAt base ⟨[.ref a], []⟩) (fun fin s' => match fin with | .done f => R (.ok f) s' | .again c' => c'.quiet = true ∧ codeAny (model prog w) A c' R s') (fun e s' => R (.error e) s') s := by
  have hTy : s.TypeIs (.ref a) "dict" := ⟨o, hk0 _ _ ha, hc⟩
  unfold Builtin.dictReprAt
  refine wpOwn_bind (wpOwn_of_wpAny ?_)
  unfold Builtin.Dict.dictSlotNone
  refine wpAny_bind (wpAny_notOrdered_dict hTy ?_)
  show wpAny _ _ (Pure.pure (Value.ref a)) _ _ s
  refine wpAny_pure ?_
  rw [dictReprRunning_eq]
  refine wpOwn_bind (wpOwn_stackTailAny hg (dictGuardF_off _) (dictGuardF_pos _) ?_)
  cases hn : (g.any fun c => dictGuardF (.ref a) (c, default)) with
  | true =>
    refine wpOwn_of_wpAny ?_
    show wpAny _ _ (do rule "dict.__repr__.in-itself"; retStr "{...}") _ _ s
    refine wpAny_bind (wpAny_rule ?_)
    unfold retStr
    refine wpAny_bind (wpAny_mkStr (wpAny_pure ?_) (by decide))
    exact hR "{...}" _ _ (by decide)
  | false =>
    refine wpOwn_of_wpAny ?_
    show wpAny _ _ (Builtin.Dict.addrOf (.ref a) >>= _) _ _ s
    refine wpAny_bind (wpAny_pure ?_)
    show wpAny _ _ (Builtin.Dict.showsAll a >>= _) _ _ s
    unfold Builtin.Dict.showsAll
    rw [if_neg (by rw [hsys]; exact Bool.false_ne_true)]
    refine wpAny_bind (wpAny_pure ?_)
    refine wpAny_bind (wpAny_dictEpoch (hk0 _ _ ha) hd ?_)
    refine wpAny_bind (wpAny_dictEntries (hk0 _ _ ha) hd ?_)
    refine wpAny_bind ?_
    rw [Std.Legacy.Range.forIn_eq_forIn_range']
    simp only [Std.Legacy.Range.size, Nat.sub_zero, Nat.add_sub_cancel, Nat.div_one]
    refine wpAny_forIn_list _ (fun rest' r s' => rest' = [] ∧ r = (⟨#[], base⟩ : (Array Str × Nat)) ∧ s' = s) _ ?_ ?_ _ _ ⟨by simp, rfl, rfl⟩
    · rintro x rest' _ s' ⟨hr, _, _⟩
      exact nomatch hr
    · rintro _ s' ⟨_, rfl, rfl⟩
      have e : ((("{" : Str) ++ Str.join ", " [] ++ "}") : Str).length ≤ 5 := by decide
      refine wpAny_bind (wpAny_mkStr (wpAny_pure (hR _ _ _ e)) ?_)
      exact Nat.le_trans e (by decide)
theorem RX.emp {a : Addr} {o : Obj} {n : Nat} (ha : h₀.get? a = some o) (hc : o.cls = .type "dict") (hd : o.data = .dict #[] n) (hs : (a == sysModules) = false) : RX prog w h₀ 1 7 (.ref a) := by
  intro base hb A g E s Q hg hu hk0 hQ
  refine wpAny_pyReprUnder_ref (by omega) (wpAny_pyReprObjUnder_twin (twin := "dict.__repr__.under") ⟨o, hk0 _ _ ha, hc⟩ F.slot_dict_repr rfl (by omega) ?_)
  exact call_twin_own (F.quiet_dict_repr_under _) F.entry_dict_repr_under F.check_dict_repr_under ⟨o, hk0 _ _ ha, hc⟩ F.slot_dict_repr (F.args_dict_repr_1 _)
    (wpOwn_dict_repr0 (R := callEnd _ E) ha hc hd hs (isGuard_dict_repr_under _) (units_under_dict_repr_under _ _) hg hk0 fun t u tk ht => ⟨⟨_, _, rfl⟩, _, _, rfl, hQ t s.heap tk (by omega) fun _ _ e => e⟩)
theorem RX.lst {a : Addr} {o : Obj} {vs : Array Value} {n C d : Nat} (h1 : h₀.get? a = some o) (h2 : o.cls = .type "list") (h3 : o.data = .seq vs n) (hT : RXs prog w h₀ d vs.toList C) : RX prog w h₀ (d + 1) (C + 7) (.ref a) := by
  intro base hb A g E s Q hg hu hk0 hQ
  obtain ⟨l⟩ := vs
  cases l with
  | nil =>
    refine wpAny_pyReprUnder_ref (by omega) (wpAny_pyReprObjUnder_list_empty ⟨_, hk0 _ _ h1, h2⟩ (by omega) (hk0 _ _ h1) h3 ⟨_, _, rfl, hQ "[]" s.heap _ ?_ fun _ _ e => e⟩)
    have : (("[]" : String) : Str).length = 2 := rfl
    omega
  | cons x l =>
    refine wpAny_pyReprUnder_ref (by omega) (wpAny_pyReprObjUnder_twin (twin := "list.__repr__.under") ⟨_, hk0 _ _ h1, h2⟩ F.slot_list_repr.toG rfl (by omega) ?_)
    exact call_twin_plain F.plain_list_repr_under F.entry_list_repr_under F.check_list_repr_under ⟨_, hk0 _ _ h1, h2⟩ F.slot_list_repr.toG (F.args_list_repr_1 _)
      (wpAny_list_reprL (R := callEnd _ E) h1 h3 hT hk0 (by omega) (fun t h' u tk ht hk => ⟨⟨_, _, rfl⟩, _, _, rfl, hQ t h' tk ht hk⟩) hb)
mutual
theorem rx_ofE : ∀ {d : PyData} {v : Value}, RdE h₀ v d → d.showable = true → tbE d ≤ sizeLine → RX prog w h₀ d.depth (tbE d) v
  | _, _, .none, hs, hz => .leaf (leafE (h₀ := h₀) .none rfl hs (by simp only [tbE] at hz; omega)) (by simp only [tbE]; omega)
  | _, _, .bool b, hs, hz => .leaf (leafE (h₀ := h₀) (.bool b) rfl hs (by simp only [tbE] at hz; omega)) (by simp only [tbE]; omega)
  | _, _, .int i t, hs, hz => .leaf (leafE (h₀ := h₀) (.int i t) rfl hs (by simp only [tbE] at hz; omega)) (by simp only [tbE]; omega)
  | _, _, .str x t, hs, hz => .leaf (leafE (h₀ := h₀) (.str x t) rfl hs (by simp only [tbE] at hz; omega)) (by simp only [tbE]; omega)
  | _, _, .tuple (a := a) h1 h2 h3 h4, hs, hz => by
    simp only [PyData.showable] at hs
    simp only [tbE] at hz ⊢
    exact RX.tup h1 h2 h3 (rxs_ofE h4 hs (by omega))
  | _, _, .list (a := a) h1 h2 h3 h4, hs, hz => by
    simp only [PyData.showable] at hs
    simp only [tbE] at hz ⊢
    exact RX.lst h1 h2 h3 (rxs_ofE h4 hs (by omega))
  | _, _, .emp h1 h2 h3 h4, hs, hz => by
    intro base hb A g E s Q hg hu hk0 hQ
    simp only [tbE] at hb hQ
    simp only [PyData.depth] at hu
    exact RX.emp h1 h2 h3 h4 base (by omega) A g E s Q hg (by omega) hk0 fun t h' tk ht hk => hQ t h' tk (by omega) hk
theorem rxs_ofE : ∀ {ds : List PyData} {vs : List Value}, RdEs h₀ vs ds → PyData.showableAll ds = true → tbEs ds ≤ sizeLine → RXs prog w h₀ (PyData.depthAll ds) vs (tbEs ds)
  | _, _, .nil, _, _ => .nil
  | _, _, .cons (d := d) (ds := ds) h1 h2, hs, hz => by
    simp only [PyData.showableAll, Bool.and_eq_true] at hs
    simp only [tbEs] at hz ⊢
    simp only [PyData.depthAll]
    have a := rx_ofE h1 hs.1 (by omega)
    have b := rxs_ofE h2 hs.2 (by omega)
    exact .cons (a.level (Nat.le_max_left _ _)) (b.level (Nat.le_max_right _ _))
end
mutual
theorem reprK_ofE : ∀ {d : PyData} {v : Value}, RdE h₀ v d → d.showable = true → d.shown.length ≤ sizeLine → ∃ bs, ReadAtMost h₀ d.depth bs ∧ ReprK prog w bs h₀ d.depth v d.shown
  | _, _, .none, _, _ => ⟨[], (fun _ h => nomatch h), by simp only [PyData.shown]; exact .of_is ReprIs.none _ _ _⟩
  | _, _, .bool b, _, _ => ⟨[], (fun _ h => nomatch h), by simp only [PyData.shown]; exact .of_is (ReprIs.bool b) _ _ _⟩
  | _, _, .int i t, hs, _ => ⟨[], (fun _ h => nomatch h), by simp only [PyData.shown]; exact .of_is (ReprIs.int t (by simpa [PyData.showable] using hs)) _ _ _⟩
  | _, _, .str x t, _, hz => ⟨[], (fun _ h => nomatch h), by simp only [PyData.shown]; exact .of_is (ReprIs.str x t (by simpa only [PyData.shown] using hz)) _ _ _⟩
  | _, _, .list (a := a) (vs := vs) (xs := xs) h1 h2 h3 h4, hs, hz => by
    have hz' : (listText (PyData.shownAll xs)).length ≤ sizeLine := by simpa only [PyData.shown] using hz
    obtain ⟨bs, hb, hk⟩ := reprKs_ofE h4 (by simpa [PyData.showable] using hs) (fun t ht => Nat.le_trans (listText_mem_le ht) hz')
    obtain ⟨as, r⟩ := (RdE.list h1 h2 h3 h4).reads
    have hna : a ∉ bs := not_mem_of_deeper r (by simp only [PyData.depth]; omega) hb
    refine ⟨a :: bs, ReadAtMost.cons r (by simp only [PyData.depth]; omega) hb, ?_⟩
    simp only [PyData.depth, PyData.shown]
    obtain ⟨l⟩ := vs
    cases l with
    | nil =>
      have h4' : RdEs h₀ [] xs := h4
      cases h4'
      simp only [PyData.shownAll, listText_nil]
      exact ReprK.listEmpty h1 h2 h3
    | cons x l => exact ReprK.list h1 h2 h3 hna (by simpa using hk.length_eq) (fun i y e => hk.item i y (by simpa using e))
  | _, _, .tuple (a := a) (xs := xs) h1 h2 h3 h4, hs, hz => by
    have hz' : (tupleText (PyData.shownAll xs)).length ≤ sizeLine := by simpa only [PyData.shown] using hz
    obtain ⟨bs, hb, hk⟩ := reprKs_ofE h4 (by simpa [PyData.showable] using hs) (fun t ht => Nat.le_trans (tupleText_mem_le ht) hz')
    obtain ⟨as, r⟩ := (RdE.tuple h1 h2 h3 h4).reads
    have hna : a ∉ bs := not_mem_of_deeper r (by simp only [PyData.depth]; omega) hb
    refine ⟨a :: bs, ReadAtMost.cons r (by simp only [PyData.depth]; omega) hb, ?_⟩
    simp only [PyData.depth, PyData.shown]
    exact ReprK.tuple h1 h2 h3 hna hk
  | _, _, .emp (a := a) h1 h2 h3 hsys, hs, hz => by
    obtain ⟨as, r⟩ := (RdE.emp h1 h2 h3 hsys).reads
    have hb : ReadAtMost h₀ 0 ([] : List Addr) := fun _ h => nomatch h
    refine ⟨[a], ReadAtMost.cons r (Nat.zero_le _) hb, ?_⟩
    simp only [PyData.depth, PyData.shown, PyData.shownKv]
    exact ReprK.dict h1 h2 h3 hsys (fun h => nomatch h) .nil
theorem reprKs_ofE : ∀ {ds : List PyData} {vs : List Value}, RdEs h₀ vs ds → PyData.showableAll ds = true → (∀ t ∈ PyData.shownAll ds, t.length ≤ sizeLine) →
    ∃ bs, ReadAtMost h₀ (PyData.depthAll ds) bs ∧ ReprAllK prog w bs h₀ (PyData.depthAll ds) vs (PyData.shownAll ds)
  | _, _, .nil, _, _ => ⟨[], (fun _ h => nomatch h), by simp only [PyData.shownAll]; exact .nil⟩
  | _, _, .cons (d := d) (ds := ds) r rs, hs, hz => by
    have hs' : d.showable = true ∧ PyData.showableAll ds = true := by simpa [PyData.showableAll] using hs
    obtain ⟨b1, hb1, k1⟩ := reprK_ofE r hs'.1 (hz _ (by simp only [PyData.shownAll]; exact List.mem_cons_self ..))
    obtain ⟨b2, hb2, k2⟩ := reprKs_ofE rs hs'.2 (fun t ht => hz t (by simp only [PyData.shownAll]; exact List.mem_cons_of_mem _ ht))
    refine ⟨b1 ++ b2, ?_, ?_⟩
    · intro b hm
      simp only [PyData.depthAll]
      rcases List.mem_append.mp hm with hm | hm
      · obtain ⟨d', as', r', hd'⟩ := hb1 b hm
        exact ⟨d', as', r', Nat.le_trans hd' (Nat.le_max_left _ _)⟩
      · obtain ⟨d', as', r', hd'⟩ := hb2 b hm
        exact ⟨d', as', r', Nat.le_trans hd' (Nat.le_max_right _ _)⟩
    · simp only [PyData.depthAll, PyData.shownAll]
      exact .cons ((k1.more fun b hb => List.mem_append_left _ hb).level_le (Nat.le_max_left _ _)) (k2.more_le (fun b hb => List.mem_append_right _ hb) (Nat.le_max_right _ _))
end
/-- repr(v) with nothing under way -/
theorem repr_ofE {A : Around} {E : Value → Shared → Prop} {s : Shared} {Q : Value → Shared → Prop} {a : Addr} {d : PyData} (r : RdE h₀ (.ref a) d) (hs : d.showable = true) (hg : A.guards = some []) (hu : A.units + (d.depth + 1) < cLine) (hk0 : ∀ b o, h₀.get? b = some o → s.heap.get? b = some o)
    (hQ : ∀ h' u tk, (∀ b o, s.heap.get? b = some o → h'.get? b = some o) → Q (.str d.shown u) { s with heap := h', toks := tk }) (hsz : d.shown.length ≤ sizeLine) : wpAny (model prog w) A (call (.builtin "repr") [.ref a]) Q E s := by
  have r0 := r
  cases r with
  | list h1 h2 h3 h4 =>
    rename_i o vs n xs
    have hz' : (listText (PyData.shownAll xs)).length ≤ sizeLine := by simpa only [PyData.shown] using hsz
    obtain ⟨bs, hb, hk⟩ := reprKs_ofE (prog := prog) (w := w) h4 (by simpa [PyData.showable] using hs) (fun t ht => Nat.le_trans (listText_mem_le ht) hz')
    obtain ⟨as, rr⟩ := r0.reads
    have hna : a ∉ bs := not_mem_of_deeper rr (by simp only [PyData.depth]; omega) hb
    simp only [PyData.depth] at hu
    simp only [PyData.shown] at hQ
    refine call_repr_slot (T := "list") (by omega) ⟨o, hk0 _ _ h1, h2⟩ F.slot_list_repr.toG ?_
    obtain ⟨l⟩ := vs
    cases l with
    | nil =>
      have h4' : RdEs h₀ [] xs := h4
      cases h4'
      simp only [PyData.shownAll, listText_nil] at hQ
      exact call_list_repr_empty ⟨o, hk0 _ _ h1, h2⟩ (hk0 _ _ h1) h3 ⟨_, _, rfl, hQ s.heap _ _ fun _ _ e => e⟩
    | cons x l =>
      exact call_list_reprK h1 h2 h3 hna (by simpa using hk.length_eq) (fun i y e => hk.item i y (by simpa using e)) hg (fun b _ => Clear.nil b) (by show A.units + 1 + _ < cLine; omega) hk0 (fun h' u tk hk => ⟨_, _, rfl, hQ h' u tk hk⟩) hz'
  | tuple h1 h2 h3 h4 =>
    rename_i o vs n xs
    have hz' : (tupleText (PyData.shownAll xs)).length ≤ sizeLine := by simpa only [PyData.shown] using hsz
    obtain ⟨bs, hb, hk⟩ := reprKs_ofE (prog := prog) (w := w) h4 (by simpa [PyData.showable] using hs) (fun t ht => Nat.le_trans (tupleText_mem_le ht) hz')
    obtain ⟨as, rr⟩ := r0.reads
    have hna : a ∉ bs := not_mem_of_deeper rr (by simp only [PyData.depth]; omega) hb
    simp only [PyData.depth] at hu
    simp only [PyData.shown] at hQ
    refine call_repr_slot (T := "tuple") (by omega) ⟨o, hk0 _ _ h1, h2⟩ F.slot_tuple_repr ?_
    exact call_tuple_reprK h1 h2 h3 hna hk hg (fun b _ => Clear.nil b) (by show A.units + 1 + _ < cLine; omega) hk0 (fun h' u tk hk => ⟨_, _, rfl, hQ h' u tk hk⟩) hz'
  | emp h1 h2 h3 hsys =>
    rename_i o n
    simp only [PyData.depth] at hu
    simp only [PyData.shown, PyData.shownKv] at hQ hsz
    refine call_repr_slot (T := "dict") (by omega) ⟨o, hk0 _ _ h1, h2⟩ F.slot_dict_repr ?_
    exact call_dict_reprK (as := []) (d := 0) (ps := []) h1 h2 h3 hsys (fun h => nomatch h) .nil hg (fun b _ => Clear.nil b) (by show A.units + 1 + _ < cLine; omega) hk0 (fun h' u tk hk => ⟨_, _, rfl, hQ h' u tk hk⟩) hsz
end
namespace XExc
open PySem.W PySem.Calls PyProof.Rows PySem.HandSPX
theorem td_ofE {prog : Program} {w : World} {h₀ : Heap} {v : Value} {d : PyData} (r : RdE h₀ v d) (hs : d.showable = true) (hz : tbE d ≤ 100000) (hd : d.depth ≤ 64) : Td prog w h₀ v := by
  have z : ∀ n : Nat, n ≤ 200000 → n ≤ sizeLine := fun n hn => Nat.le_trans hn (by decide)
  refine ⟨fun A E s Q hu hk hQ => ?_⟩
  cases r with
  | none =>
    exact pyReprObj_none (hQ "None" s.heap _ _ (by have : (("None" : String) : Str).length = 4 := rfl; omega) fun _ _ e => e)
  | bool b =>
    exact pyReprObj_bool (hQ _ s.heap _ _ (by cases b <;> decide) fun _ _ e => e)
  | int i t =>
    simp only [tbE, PyData.shown] at hz
    exact pyReprObj_int (by simpa [PyData.showable] using hs) (hQ _ s.heap _ _ (by omega) fun _ _ e => e)
  | str x t =>
    simp only [tbE, PyData.shown] at hz
    exact pyReprObj_str (hQ _ s.heap _ _ (by omega) fun _ _ e => e) (z _ (by omega))
  | @tuple a o vs n xs h1 h2 h3 h4 =>
    simp only [PyData.showable] at hs
    simp only [tbE] at hz
    simp only [PyData.depth] at hd
    refine wpAny_guards fun g => ?_
    exact top_tup h1 h2 h3 (rxs_ofE h4 hs (z _ (by omega))) rfl (show A.units + (PyData.depthAll xs + 1) < cLine by omega) hk (fun t h' u tk ht hk' => hQ t h' u tk (by omega) hk') (z _ (by omega))
  | @list a o vs n xs h1 h2 h3 h4 =>
    simp only [PyData.showable] at hs
    simp only [tbE] at hz
    simp only [PyData.depth] at hd
    have hT := rxs_ofE (prog := prog) (w := w) h4 hs (z _ (by omega))
    obtain ⟨l⟩ := vs
    cases l with
    | nil => exact wpAny_pyReprObj_list_empty ⟨_, hk _ _ h1, h2⟩ (by omega) (hk _ _ h1) h3 (hQ "[]" s.heap _ _ (by have : (("[]" : String) : Str).length = 2 := rfl; omega) fun _ _ e => e)
    | cons x l =>
      refine wpAny_pyReprObj_slot (by omega) ⟨_, hk _ _ h1, h2⟩ F.slot_list_repr.toG ?_
      exact wpAny_call (codeAny_call_builtin F.slot_list_repr.plain F.entry_list_repr (F.slot_list_repr.check _ _ _ _ _ _ _ _ ⟨_, hk _ _ h1, h2⟩ (F.args_list_repr_1 _)
        (wpAny_list_reprL (base := 0) (R := callEnd _ E) h1 h3 hT hk (by omega) (fun t h' u tk ht hk' => ⟨_, _, rfl, hQ t h' u tk (by omega) hk'⟩) (z _ (by omega)))))
  | @emp a o n h1 h2 h3 hsys =>
    refine wpAny_guards fun g => ?_
    refine wpAny_pyReprObj_slot (by show A.units < cLine; omega) ⟨o, hk _ _ h1, h2⟩ F.slot_dict_repr ?_
    exact wpAny_call (codeAny_call_builtin_own (Code.quiet_builtin _ (by decide +kernel)) F.entry_dict_repr (F.slot_dict_repr.check _ _ _ _ _ _ _ _ ⟨o, hk _ _ h1, h2⟩ (F.args_dict_repr_1 _)
      (wpOwn_dict_repr0 (base := 0) (R := callEnd _ E) h1 h2 h3 hsys (isGuard_dict_repr _) (units_under_dict_repr _ _) rfl hk fun t u tk ht => ⟨_, _, rfl, hQ t s.heap u tk (by omega) fun _ _ e => e⟩)))
end XExc
end PySem
set_option Elab.async false
set_option linter.all false
set_option maxRecDepth 100000
set_option maxHeartbeats 4000000
/-! XExcE: data with empty dicts and lists of anything: raised errors that tell them, repr(), == []. -/
namespace XL
open PySem PySem.Spec PyProof.Rows L2
mutual
inductive DpE (K : PySem.W.Frag) (H : Hp) : V → PyData → Prop
  | non : DpE K H .non .none
  | bl (b : Bool) : DpE K H (.bl b) (.bool b)
  | int (i : Int) : DpE K H (.int i) (.int i)
  | str (x : Str) : DpE K H (.str x) (.str x)
  | lst {a : Addr} {xs : List V} {ds : List PyData} : SqL K H a xs → DpEAll K H xs ds → DpE K H (.ref a) (.list ds)
  | tup {a : Addr} {xs : List V} {ds : List PyData} : SqT K H a xs → DpEAll K H xs ds → DpE K H (.ref a) (.tuple ds)
  | emp {a : Addr} : H a = some (.dK []) → DpE K H (.ref a) (.dict [])
inductive DpEAll (K : PySem.W.Frag) (H : Hp) : List V → List PyData → Prop
  | nil : DpEAll K H [] []
  | cons {v : V} {vs : List V} {d : PyData} {ds : List PyData} : DpE K H v d → DpEAll K H vs ds → DpEAll K H (v :: vs) (d :: ds)
end
mutual
theorem dpE_same {K : PySem.W.Frag} {H H' : Hp} (e : Same H H') : ∀ {d : PyData} {v : V}, DpE K H v d → DpE K H' v d
  | _, _, .non => .non
  | _, _, .bl b => .bl b
  | _, _, .int i => .int i
  | _, _, .str x => .str x
  | _, _, .lst h hs => .lst (same_l e h) (dpEa_same e hs)
  | _, _, .tup h hs => .tup (same_t e h) (dpEa_same e hs)
  | _, _, .emp h => .emp (e _ _ h)
theorem dpEa_same {K : PySem.W.Frag} {H H' : Hp} (e : Same H H') : ∀ {ds : List PyData} {vs : List V}, DpEAll K H vs ds → DpEAll K H' vs ds
  | _, _, .nil => .nil
  | _, _, .cons h hs => .cons (dpE_same e h) (dpEa_same e hs)
end
mutual
theorem dpE_of {K : PySem.W.Frag} {H : Hp} : ∀ {d : PyData} {v : V}, L2.Dp K H v d → DpE K H v d
  | _, _, .non => .non
  | _, _, .bl b => .bl b
  | _, _, .int i => .int i
  | _, _, .str x => .str x
  | _, _, .lst h hs => .lst h (dpEa_of hs)
  | _, _, .tup h hs => .tup h (dpEa_of hs)
theorem dpEa_of {K : PySem.W.Frag} {H : Hp} : ∀ {ds : List PyData} {vs : List V}, L2.DpAll K H vs ds → DpEAll K H vs ds
  | _, _, .nil => .nil
  | _, _, .cons h hs => .cons (dpE_of h) (dpEa_of hs)
end
section
variable {X : Cx} {pins : List (Addr × Obj)} {σ : L2.St} {H : Hp} {s : Shared}
mutual
theorem DpE.rd (I : Inv X pins σ H s) : ∀ {d : PyData} {v : V} {u : Value}, DpE X.K H v d → RelV v u → RdE s.heap u d
  | _, _, _, .non, r => by
    cases r
    exact .none
  | _, _, _, .bl b, r => by
    cases r
    exact .bool b
  | _, _, _, .int i, r => by
    obtain ⟨t, rfl⟩ := r
    exact .int i t
  | _, _, _, .str x, r => by
    obtain ⟨t, rfl⟩ := r
    exact .str x t
  | _, _, _, .lst hs ha, r => by
    cases r
    obtain ⟨its, rv, ⟨o, n, ho, hc, _, hd⟩, _⟩ := I.list hs
    exact .list ho hc hd (DpEAll.rd I ha rv)
  | _, _, _, .tup hs ha, r => by
    cases r
    obtain ⟨its, rv, ⟨o, ho, hc, n, hd⟩, _⟩ := I.tuple hs
    exact .tuple ho hc hd (DpEAll.rd I ha rv)
  | _, _, _, .emp (a := a) ha, r => by
    cases r
    obtain ⟨z, hs, vs, rel, o, es, ep, ho, hex, hdat, _, hp, _⟩ := dk_of I.hok ha
    cases rel
    obtain ⟨l⟩ := es
    have el : l = [] := by
      have hp2 : Pairs (mixKind X.prog X.w) l [] := hp
      cases hp2
      rfl
    subst el
    exact .emp ho hex.1 hdat hs
theorem DpEAll.rd (I : Inv X pins σ H s) : ∀ {ds : List PyData} {vs : List V} {us : List Value}, DpEAll X.K H vs ds → Vals vs us → RdEs s.heap us ds
  | _, _, _, .nil, r => by
    cases r
    exact .nil
  | _, _, _, .cons h1 h2, r => by
    cases r with
    | cons r1 r2 => exact .cons (DpE.rd I h1 r1) (DpEAll.rd I h2 r2)
end
end
/-- what can be told -/
def RpE (K : PySem.W.Frag) (H : Hp) (v : V) : Prop := ∃ d, DpE K H v d ∧ d.showable = true ∧ tbE d ≤ 100000 ∧ d.depth ≤ 64
theorem RpE.td {X : Cx} {pins : List (Addr × Obj)} {σ : L2.St} {H : Hp} {s : Shared} {v : V} {u : Value} (I : Inv X pins σ H s) (h : RpE X.K H v) (r : RelV v u) : PySem.XExc.Td X.prog X.w s.heap u := by
  obtain ⟨d, hd, h2, h3, h4⟩ := h
  exact PySem.XExc.td_ofE (hd.rd I r) h2 h3 h4
section
variable {X : Cx} {C fI : Addr} {nm fld msg : Str}
def tMkE (K : PySem.W.Frag) (C : Addr) (fld : Str) (ta : TA) : L2.St → Hp → XK → Prop := fun σ H Q => ta σ H fun vs H1 => ∃ v, vs = [v] ∧ RpE K H1 v ∧ ∀ d, H1 d = none → Q (.ref C) (some d) (upd H1 d (.xd [(fld, v)]))
theorem pmk_xE {a : Expr} {ta : TA} {p pos : Pos} {k : Nat} (hcv : PySem.XExc.CvR X.K fI) (T : PySem.XExc.ExTxt X.prog X.K X.mg nm fld msg C fI) (hr : Room (k + 1) X.A) (ha : PA X [a] ta) (hg : Gl X nm := by rfl) (hd : (nm == ("__debug__" : Str)) = false := by decide)
    (he : starEach (a :: []) X.env = (false, eval a X.env) :: starEach [] X.env := by rfl) (hpl : (backTo pos (starEach [] X.env)).any (·.1) = false := by rfl) :
    PMk X (.Call (.Name nm p) [a] [] pos) (tMkE X.K C fld ta) := by
  intro pins s σ H Q I h
  refine wpAny_Call_Name_kw (ld_glob I hg T.gC ?_ hd)
  refine PySem.W.callWith_K (h₀ := X.base) I.ok.mod.kin T.kC (thn (ha.run pos pins s σ H _ I h) fun us s1 hh => ?_) he hpl
  obtain ⟨vs, H1, I1, r1, v, ev, rp, q1⟩ := hh
  subst ev
  refine ⟨I1.kIn, ?_⟩
  cases r1 with
  | cons rv rn =>
    rename_i v' us'
    cases rn
    show wpAny _ _ (call (.ref C) [v']) _ _ _
    have hlim := I1.nolimit
    have hG := I1.mod.glob.keeps I1.bk
    obtain ⟨mb, hB, hbb⟩ := I1.mod.blt
    have hB := hB.keeps I1.bk
    obtain ⟨hp, g, dr, tk, os⟩ := s1
    refine wpAny_call (PySem.XExc.exc_madeD hcv T I1.kIn hlim hG hB hbb (by have := hr.dp; omega) (by have := hr.un; omega) (RpE.td I1 rp rv) fun h' tk' e d M => ?_)
    show MkP X pins σ Q (.ref e) ⟨h', g, dr, tk', os⟩
    obtain ⟨oe, fv, hoe, hc, hd, hdat, h1⟩ := M.obj
    have hns := M.ns
    obtain ⟨G', g1, g2⟩ := restrict h' fun b => decide (b ≠ e)
    have gk : ∀ b, b ≠ e → G'.get? b = h'.get? b := fun b hb => g1 b (decide_eq_true hb)
    have ge : G'.get? e = none := g2 e (by simp)
    have old : ∀ b o, hp.get? b = some o → G'.get? b = some o := fun b o q => (gk b (Nat.ne_of_lt (Nat.lt_of_lt_of_le (Heap.lt_size q) M.new))).trans (M.keep b o q)
    have ob : ObjOk X.prog X.w (upd H1 d (.xd [(fld, v)])) G' d (.xd [(fld, v)]) :=
      ⟨_, hns.at (fun o q => (gk d M.dne).trans q), fun f => relO_one rv f⟩
    have J : Inv X pins σ (upd H1 d (.xd [(fld, v)])) ⟨G', g, dr, tk', os⟩ := I1.laid (t' := tk') old M.dbig ob
    refine ⟨e, oe, fv, ⟨G', g, dr, tk', os⟩, _, .ref C, some d, rfl, J, fun b o q => ?_, ge, hoe, ⟨hc, hd⟩, hdat, h1, ?_, rfl, I1.bare, raises_own T.exC T.tyC, q1 d (I1.hok.fresh M.dbig)⟩
    · by_cases hb : b = e
      · have q' : G'.get? b = some o := q
        rw [hb, ge] at q'; cases q'
      · exact (gk b hb).symm.trans q
    · rw [upd_ne (Ne.symm M.dne)]
      exact I1.hok.fresh M.new
def tRaiseE (K : PySem.W.Frag) (C : Addr) (fld : Str) (W : WX) (ta : TA) : TS := fun _ σ H => tMkE K C fld ta σ H fun cls d H' => W cls d σ H'
theorem ps_raiseE {a : Expr} {ta : TA} {W : WX} {p pos pos2 : Pos} {k : Nat} (hc : X.calm = true) (hcv : PySem.XExc.CvR X.K fI) (T : PySem.XExc.ExTxt X.prog X.K X.mg nm fld msg C fI) (hr : Room (k + 1) X.A) (tk : Takes X W) (ha : PA X [a] ta) (hg : Gl X nm := by rfl) (hd : (nm == ("__debug__" : Str)) = false := by decide)
    (he : starEach (a :: []) X.env = (false, eval a X.env) :: starEach [] X.env := by rfl) (hpl : (backTo pos (starEach [] X.env)).any (·.1) = false := by rfl) :
    PS X (.Raise (some (.Call (.Name nm p) [a] [] pos)) none pos2) (tRaiseE X.K C fld W ta) := ps_raise hc tk (pmk_xE hcv T hr ha hg hd he hpl)
end
/-- repr of such data -/
def rReprE (K : PySem.W.Frag) : List V → Hp → VK → Prop := fun xs H Q => ∃ v d, xs = [v] ∧ DpE K H v d ∧ d.showable = true ∧ d.depth ≤ 64 ∧ d.shown.length ≤ sizeLine ∧ Q (.str d.shown) H
theorem call_reprE {X : Cx} (K : PySem.W.Frag) (hg : X.A.guards = some []) (hu : X.A.units + 70 < cLine) (hK : X.K = K := by rfl) : CallR X (.builtin "repr") (rReprE K) := by
  subst hK
  intro pins s σ H xs us Q I r h
  obtain ⟨v, d, rfl, hd, h1, h3, h4, q⟩ := h
  obtain ⟨u, rfl, ru⟩ := r.one
  have rd := hd.rd I ru
  have big : ∀ a : Addr, u = .ref a → wpAny (model X.prog X.w) X.A (call (.builtin "repr") [u]) (EP X pins σ Q) X.xe s := by
    rintro a rfl
    exact repr_ofE rd h1 hg (by omega) (fun _ _ e => e) (fun h' t tk hk => ⟨.str d.shown, H, I.kept hk, ⟨_, rfl⟩, q⟩) h4
  cases hd with
  | non =>
    cases ru
    exact PySem.P.repr_of_none ⟨.str _, H, I.tok _, ⟨_, rfl⟩, by simpa only [PyData.shown] using q⟩
  | bl b =>
    cases ru
    exact PySem.P.repr_of_bool ⟨.str _, H, I.tok _, ⟨_, rfl⟩, by simpa only [PyData.shown] using q⟩
  | int i =>
    obtain ⟨t, rfl⟩ := ru
    exact PySem.P.repr_of_int (by simpa [PyData.showable] using h1) ⟨.str _, H, I.tok _, ⟨_, rfl⟩, by simpa only [PyData.shown] using q⟩
  | str x =>
    obtain ⟨t, rfl⟩ := ru
    exact PySem.P.repr_of_str ⟨.str _, H, I.tok _, ⟨_, rfl⟩, by simpa only [PyData.shown] using q⟩ (by simpa only [PyData.shown] using h4)
  | lst _ _ => exact big _ ru
  | tup _ _ => exact big _ ru
  | emp _ => exact big _ ru
/-- xs == [] -/
def rEqNil (K : PySem.W.Frag) : R2 := fun x y H Q => ∃ a b xs, x = .ref a ∧ y = .ref b ∧ SqL K H a xs ∧ SqL K H b [] ∧ Q (.bl xs.isEmpty) H
theorem op_eqNil {X : Cx} (K : PySem.W.Frag) (hu : X.A.units < cLine) (hK : X.K = K := by rfl) : OpR X (compareOp .Eq) (rEqNil K) := by
  subst hK
  intro pins s σ H x y v u Q I rx ry h
  obtain ⟨a, b, xs, rfl, rfl, ha, hb, q⟩ := h
  cases rx
  cases ry
  obtain ⟨its, r, ⟨o, n, e, c, _, d⟩, _⟩ := I.list ha
  obtain ⟨its2, r2, ⟨o2, n2, e2, c2, _, d2⟩, _⟩ := I.list hb
  cases r2
  have h1 : s.heap.IsList a its.toArray := ⟨_, e, c, _, d⟩
  have h2 : s.heap.IsList b #[] := ⟨_, e2, c2, _, d2⟩
  cases r with
  | nil => exact SeqAt.eq_listAt (e := fun _ => true) h1 h2 rfl hu (fun j h _ => nomatch h) ⟨.bl _, H, I, rfl, q⟩
  | cons _ _ => exact SeqAt.eq_list_lengthsAt h1 h2 (by simp) hu ⟨.bl _, H, I, rfl, q⟩
end XL
set_option Elab.async false
set_option linter.all false
set_option maxRecDepth 100000
set_option maxHeartbeats 4000000
/-! XErr: a caught error is handed to a def, within the except suite; there isinstance(e, C), e.field and repr(). -/
namespace XL
open PySem PySem.Spec PyProof.Rows L2 L2H
/-- what such a def promises: a the error, cls its class, d its dict -/
structure FnE (P : Program) (w : World) (K : PySem.W.Frag) (mg : Str → Option Value) (base : Heap) (k : Nat) (f : Addr) (fd : FuncData) (ps : List Str) (sp : Addr → Value → Option Addr → Sp) : Prop where
  len : ∀ a cls d vs H Q E, sp a cls d vs H Q E → vs.length = ps.length
  run : ∀ (A : Around) (outer : List Env) (s : Shared) (H : Hp) (args : Args) (us : List Value) (vs : List V) (Q : VK) (E : XK) (a : Addr) (oe : Obj) (cls : Value) (d : Option Addr), RoomH k A → A.guards = some [] → PinOk outer H s (a, oe) → Zc cls d oe → (∃ vs, oe.data = .fields vs) →
    Env0 P w K mg base A outer s H → BindsTo s fd args (ps.zip us) → Vals vs us → sp a cls d vs H Q E → codeAny (model P w) A (.call (.ref f) args) (CR CX0 outer P w H s Q E) s
theorem okErr {P : Program} {w : World} {K : PySem.W.Frag} {mg : Str → Option Value} {base : Heap} {x qual : Str} {st : Stmt} {f : Addr} {fd : FuncData} {N ps : List Str} {k : Nat} {sp : Addr → Value → Option Addr → Sp} (F : Fun K x qual st f fd) (S : FnScope N ps (defScope st)) (len : ∀ a cls d vs H Q E, sp a cls d vs H Q E → vs.length = ps.length)
    (hbody : ∀ (cdv : Value) (A : Around) (outer : List Env) (s : Shared) (H : Hp) (vs : List V) (Q : VK) (E : XK) (a : Addr) (oe : Obj) (cls : Value) (d : Option Addr), RoomH k (A.deeper (envOfC qual (defScope st) s.heap.objs.size f cdv)) → A.guards = some [] → Zc cls d oe → (∃ vs, oe.data = .fields vs) → sp a cls d vs H Q E →
      ∃ t, PSs (cxH CX0 P w K mg base N qual (defScope st) f cdv A outer s H E (a, oe)) (defBody st) t ∧ t { nx := fun _ H' => Q .non H', rt := Q } (L2.start N vs) H) : FnE P w K mg base (k + 1) f fd ps sp := by
  obtain ⟨oc, od, kV, doc, pm, an, cdv, ct, osl, rfl, lk, hcd⟩ := F.ex
  refine ⟨len, fun A outer s H args us vs Q E a oe cls d hr hg hpin hz hf e0 hb r hsp => ?_⟩
  have hl := len _ _ _ _ _ _ _ hsp
  have KX : K.In s.heap := e0.mod.kin.keeps fun b o e => (e0.bs b o e).1
  have lim : s.heap.NoLimit := e0.mod.nolimit.keeps fun b o e => (e0.bs b o e).1
  have hkind : ∀ y ∈ ps.zip us, (defScope st).names.lookup y.1 = some .local ∨ ((defScope st).names.lookup y.1 = some .cell ∧ ((cellsFrom (s.heap.objs.size + 1) (defScope st).names []).lookup y.1).isSome = true) := fun ⟨n, v⟩ hy => by
    rcases S.par n (List.of_mem_zip hy).1 with q | q
    · exact .inl q
    · exact .inr ⟨q, PySem.W.cellsFrom_some _ _ _ (.inl q)⟩
  refine codeAny_call_function hr.depth (KX _ _ lk) rfl S.co S.gen rfl (PySem.W.codeRec_of KX hcd) (hb _ _ _ _ ?_)
  refine wpAny_newFunctionEnv_cells S.kind hkind fun env he s1 x => ?_
  subst he
  refine ⟨lim.keeps x.toInCall.keep, codeAny_func ?_⟩
  obtain ⟨t, ht, hq⟩ := hbody cdv A outer s H vs Q E a oe cls d (hr.deeper _) hg hz hf hsp
  have I : Inv (cxH CX0 P w K mg base N qual (defScope st) f cdv A outer s H E (a, oe)) [] (L2.start N vs) H s1 := inv_startH S hpin e0 hl r x
  refine wpAny_mono (ht.run [] s1 (L2.start N vs) H _ I hq) (fun fl s' hs => ?_) fun e s' hs => hs
  have fin : ∀ {σ' : L2.St} {H' : Hp} {v : V} {u : Value}, Inv (cxH CX0 P w K mg base N qual (defScope st) f cdv A outer s H E (a, oe)) [] σ' H' s' → RelV v u → Q v H' → CE outer P w H s Q u s' :=
    fun {σ' H' v u} J rv q => ⟨v, H', J.os, J.bare, J.base, J.hok, rv, q⟩
  cases fl with
  | ret u =>
    obtain ⟨v, σ', H', J, rv, q⟩ := hs
    exact fin J rv q
  | next =>
    obtain ⟨σ', H', J, q⟩ := hs
    exact fin (v := V.non) (u := Value.none) J rfl q
  | brk =>
    obtain ⟨_, _, _, q⟩ := hs
    exact False.elim q
  | cont =>
    obtain ⟨_, _, _, q⟩ := hs
    exact False.elim q
section
variable {X : Cx} {k : Nat} {f : Addr} {fd : FuncData} {ps : List Str} {sp : Addr → Value → Option Addr → Sp} {E : XK} {x : Str} {q pos : Pos} {e : Expr} {es : List Expr} {t : TA} {a : Addr} {oe : Obj} {cls : Value} {d : Option Addr}
theorem pe_callErr (F : FnE X.prog X.w X.K X.mg X.base k f fd ps sp) (hr : RoomH k X.A) (hgd : X.A.guards = some []) (hc : (a, oe) ∈ X.pn) (hz : Zc cls d oe) (hf : ∃ vs, oe.data = .fields vs) (hg : Gl X x) (hm : X.mg x = some (.ref f)) (hk : PySem.W.keepIn X.K (.ref f) = true) (hb : Binds X.K fd ps []) (hx : Passes CX0 X E)
    (ha : PA X (e :: es) t) (hdb : (x == ("__debug__" : Str)) = false := by decide) (he : starEach (e :: es) X.env = (false, eval e X.env) :: starEach es X.env := by rfl) (hpl : (backTo pos (starEach es X.env)).any (·.1) = false := by rfl) :
    PE X (.Call (.Name x q) (e :: es) [] pos) (fun σ H Q => t σ H fun vs H1 => sp a cls d vs H1 Q E) := by
  refine ⟨fun pins s σ H Q I h => ?_⟩
  refine wpAny_Call_Name_kw (ld_glob I hg hm ?_ hdb)
  refine PySem.W.callWith_K (h₀ := X.base) I.ok.mod.kin hk (thn (ha.run pos pins s σ H _ I h) fun us s1 ⟨vs, H1, I1, r, q⟩ => ⟨I1.kIn, ?_⟩) he hpl
  have hl : us.length = ps.length := by rw [← r.length]; exact F.len _ _ _ _ _ _ _ q
  have b := hb s1 us I1.kIn (by rw [List.append_nil]; exact hl)
  rw [List.append_nil] at b
  have P1 := I1.pin (a, oe) (List.mem_append_left _ hc)
  have hpin : PinOk X.stack H1 s1 (a, oe) := ⟨P1.1, P1.2.1, fun hm => (List.mem_cons.mp (I1.stkSub a hm)).elim P1.2.2.1 P1.2.2.2.1, P1.2.2.2.2⟩
  refine wpAny_call (codeAny_mono (F.run X.A X.stack s1 H1 ⟨us, []⟩ us vs Q E a oe cls d hr hgd hpin hz hf I1.env0 b r q) fun r s' hq => ?_)
  cases r with
  | error e => exact hx pins σ _ _ e s' I1 hq
  | ok fl =>
    cases fl with
    | ret u => exact I1.after hq
    | next => exact False.elim hq
    | brk => exact False.elim hq
    | cont => exact False.elim hq
/-- isinstance(e, C) of an error that is pinned -/
theorem call_isP (K : PySem.W.Frag) (hp : (a, oe) ∈ X.pn) (hz : Zc cls d oe) (hf : ∃ vs, oe.data = .fields vs) (hK : X.K = K := by rfl) : CallR X (.builtin "isinstance") (rIsX K cls d a) := by
  subst hK
  intro pins s σ H xs us Q I r h
  obtain ⟨D, dd, fs, b, rfl, rfl, hd, C, hcs, q⟩ := h
  obtain ⟨hget, _⟩ := I.pin (a, oe) (List.mem_append.mpr (.inl hp))
  obtain ⟨vs, hv⟩ := hf
  have hx : ObjOk X.prog X.w H s.heap dd (.xd fs) := I.hok dd _ hd
  obtain ⟨mA, hns, _⟩ := hx
  obtain ⟨od, ho, _⟩ := lookIn_ns hns
  have J : PySem.W.InstAt s.heap a oe D (some od) := ⟨hget, hz.1, by unfold PySem.W.notCls; rw [hv] <;> rfl, by rw [hz.2]; exact ho⟩
  have cl : (PySem.W.clsIn X.K D).isSome = true := by
    obtain ⟨cd, hc, _⟩ := PySem.W.any_some C.hd
    rw [hc]
    rfl
  have Z := PySem.W.kitx_exc (x := a) (ox := oe) (od := some od) cl C.hg C.hk C.hs C.ha C.hn C.ht C.hm
  rcases hcs with ⟨c, cv, rfl, hcv, e⟩ | ⟨p, cs, us2, rfl, hp, hc, e⟩
  · cases r with
    | cons rx rr =>
      cases rr with
      | cons rt rr =>
        cases rr
        cases rx
        have ec := hcv _ rt
        subst ec
        exact PySem.W.kia_one Z I.kIn J e (fun z => nomatch z) fun tk => ⟨.bl b, H, I.kept (t' := tk) fun _ _ z => z, rfl, q⟩
  · cases r with
    | cons rx rr =>
      cases rr with
      | cons rt rr =>
        cases rr
        cases rx
        cases rt
        obtain ⟨_, its, rv, o, h1, h2, n, h3⟩ := (show ObjOk X.prog X.w H s.heap p (.tup cs) from I.hok p _ hp)
        have ei := hc.eq rv
        subst ei
        obtain ⟨oc, od', oda, osl⟩ := o
        dsimp only at h2 h3
        subst h2 h3
        exact PySem.W.kia_tup Z I.kIn J h1 e (fun z => nomatch z) fun tk => ⟨.bl b, H, I.kept (t' := tk) fun _ _ z => z, rfl, q⟩
/-- e.n of an error that is pinned -/
theorem pe_xfP {C : Addr} {te : TE} {pos : Pos} {n : Str} (T : XfC X.K C) (hno : PySem.W.findIn X.K (.ref C) n = some none) (hp : (a, oe) ∈ X.pn) (hz : Zc cls d oe) (hf : ∃ vs, oe.data = .fields vs) (he : PE X e te) (hb : attributeBase e n X.env (eval e X.env) = eval e X.env := by rfl) :
    PE X (.Attribute e n pos) (tXf a cls d C n te) := by
  refine ⟨fun pins s σ H Q I h => ?_⟩
  refine attr_of hb (thn (he.run pins s σ H _ I h) fun u s1 hh => ?_)
  obtain ⟨x, H1, I1, rx, ex, ec, dd, fs, v, ed, ea, l, q⟩ := hh
  subst ex
  obtain rfl : u = Value.ref a := rx
  subst ec
  subst ed
  obtain ⟨ha, _⟩ := I1.pin (a, oe) (List.mem_append_left _ hp)
  obtain ⟨vs, hd⟩ := hf
  have hx : ObjOk X.prog X.w H1 s1.heap dd (.xd fs) := I1.hok dd _ ea
  obtain ⟨mA, hns, hr⟩ := hx
  obtain ⟨od, ho, hl⟩ := lookIn_ns hns
  obtain ⟨u, hu, ru⟩ := RelO.some_of (v := v) (o := mA n) (by rw [← l]; exact hr n)
  have J : PySem.W.InstAt s1.heap a oe C (some od) := ⟨ha, hz.1, by unfold PySem.W.notCls; rw [hd] <;> rfl, by rw [hz.2]; exact ho⟩
  exact HandSPX.exc_get I1.kIn J T.ga T.gg T.exC (PySem.W.findObj_own T.hdC hno rfl (by rw [hl, hu])) (handed_of ru) ⟨v, H1, I1.tok _, ru, q⟩
end
section
variable {X : Cx} {CX : CXT} {k : Nat} {C g : Addr} {mc : Value} {fd : FuncData} {ps : List Str} {sp : Sp} {E : L2.St → XK} {o e : Expr} {es : List Expr} {m : Str} {pos apos : Pos} {ta : TE} {t : TA} {pl : Sem Bool}
/-- C.m(e, ..), m a staticmethod, within a try -/
def tSMethT (C : Addr) (sp : Sp) (E : L2.St → XK) (ta : TE) (t : TA) : TE := fun σ H Q => ta σ H fun x H1 => x = .ref C ∧ t σ H1 fun vs H2 => sp vs H2 Q (E σ)
theorem pe_smethT (he : PE X o ta) (r : ClX.CRead X.K C mc) (c : SMet X.K C mc m g) (F : FnOk X.prog X.w X.K X.mg X.base CX k g fd ps sp) (hr : Room k X.A) (hb : Binds X.K fd ps []) (hx : ∀ σ, PassesAt CX X σ (E σ)) (ha : PA X (e :: es) t)
    (hst : starEach (e :: es) X.env = (false, eval e X.env) :: starEach es X.env := by rfl) (hpl : (backTo pos (starEach es X.env)).any (·.1) = false := by rfl)
    (ht : eval (.Call (.Attribute o m apos) (e :: es) [] pos) X.env = (do
      let ov ← eval o X.env
      standAt apos.atName
      let (f, first) ← holding [ov] (getMethod ov m pl)
      callWith pos f first (backTo pos (starEach (e :: es) X.env)) (backToKw pos (keywordEach [] X.env))) := by rfl) :
    PE X (.Call (.Attribute o m apos) (e :: es) [] pos) (tSMethT C sp E ta t) := by
  refine ⟨fun pins s σ H Q I h => ?_⟩
  refine PySem.W.methodCall_KW (pl := pl) (thn (he.run pins s σ H _ I h) fun u s1 ⟨x, H1, I1, rx, ex, q⟩ => ?_) ht
  subst ex
  obtain rfl : u = Value.ref C := rx
  obtain ⟨p, h1, ⟨rest, h2⟩, h3⟩ := c
  refine PySem.W.method_cls I1.kIn r.ga ?_
  refine PySem.W.cls_bind I1.kIn r.rd h1 ?_
  refine wpAny_call (PySem.W.sm_get (s := { s1 with toks := s1.toks + 1 }) I1.kIn h2 (PySem.W.handed_on rfl ?_))
  have I2 : L2.Inv X pins σ H1 { s1 with toks := s1.toks + 1 } := I1.tok _
  refine PySem.W.callWith_K (h₀ := X.base) I2.ok.mod.kin h3 (thn (ha.run pos pins _ σ H1 _ I2 q) fun us s3 ⟨vs, H2, I3, r3, q3⟩ => ⟨I3.kIn, ?_⟩) hst hpl
  exact run_fnS (us := us) (vs := vs) (E := E) F hr hb (hx σ) I3 r3 q3
end
theorem u70H {k : Nat} {A : Around} (r : RoomH k A) : A.units + 70 < cLine := by have := r.un; omega
end XL
set_option Elab.async false
set_option linter.all false
set_option maxRecDepth 100000
set_option maxHeartbeats 4000000
/-! XProp: a property of an own class is read within an except suite. -/
namespace XL
open PySem PySem.Spec PyProof.Rows L2 L2H
section
variable {X : Cx} {k : Nat} {C p g a dx : Addr} {fs : List (Str × V)} {f : Str} {fd : FuncData} {ps : List Str} {sp : Sp} {E : XK} {e : Expr} {pos : Pos} {ta : TE}
theorem getpropQ {pins : List (Addr × Obj)} {σ : L2.St} {H : Hp} {s : Shared} {Q : VK} {b : Bool} {E' : Value → Shared → Prop} (I : L2.Inv X pins σ H s) (ea : H a = some (.ins C dx fs)) (c : Cls X.K C) (hp : PropOf X.K C f p g)
    (F : FnQ X.prog X.w X.K X.mg X.base k g fd ps sp) (hr : RoomH (k + 1) X.A) (hc : ∃ q, q ∈ X.pn) (hb : Binds X.K fd ps []) (hx : Passes CX0 X.nox E) (h : sp [.ref a] H Q E) :
    wpAny (model X.prog X.w) X.A (getAttr (.ref a) f b) (EP X pins σ Q) E' s := by
  obtain ⟨mA, O, _, _, _, _⟩ := ins_get I.hok ea
  obtain ⟨od, J, _⟩ := O.look
  obtain ⟨rest, hrec⟩ := hp.rec_
  have I1 := I.tok (s.toks + 1)
  have hl : ([Value.ref a] ++ []).length = ps.length := by
    rw [← F.len _ _ _ _ h]
    rfl
  have hcl : (PySem.W.clsIn X.K C).isSome = true := by
    obtain ⟨cd, hc, _⟩ := PySem.W.any_some c.hd
    rw [hc]
    rfl
  obtain ⟨q, hq⟩ := hc
  have P1 := I1.pin q (List.mem_append_left _ hq)
  have hpin : PinOk X.stack H { s with toks := s.toks + 1 } q := ⟨P1.1, P1.2.1, fun hm => (List.mem_cons.mp (I1.stkSub q.1 hm)).elim P1.2.2.1 P1.2.2.2.1, P1.2.2.2.2⟩
  have hr1 : RoomH k X.A.in1 := ⟨by have := hr.dp; show X.A.depth + 3 * k + 5 < _; omega, by have := hr.un; show X.A.units + 1 + 16 * k + 200 < _; omega⟩
  have b1 := hb { s with toks := s.toks + 1 } [.ref a] I1.kIn hl
  rw [List.append_nil] at b1
  refine PySem.W.get_bind I.kIn J (PySem.W.plainGet_of (c.get f)).1 (PySem.W.findObj_data hcl hp.at_ hp.get hp.tak) (PySem.W.plainGet_of (c.get f)).2 (wpAny_call (PySem.W.prop_get (s := { s with toks := s.toks + 1 }) I.kIn hrec ?_))
  refine codeAny_mono (F.run X.A.in1 X.stack { s with toks := s.toks + 1 } H ⟨[.ref a], []⟩ [.ref a] [.ref a] Q E q hr1 hpin I1.env0.in1 b1 (.cons rfl .nil) h) fun r s' hq => ?_
  cases r with
  | error er => exact False.elim (hx pins σ H { s with toks := s.toks + 1 } er s' (I1.wish _) hq)
  | ok fl =>
    cases fl with
    | ret u =>
      obtain ⟨v, H', I3, rv, q3⟩ := I1.after hq
      show wpAny _ _ (handedOut u) _ _ _
      rw [PySem.W.handedOut_of (handed_of rv)]
      exact wpAny_pure ⟨v, H', I3, rv, q3⟩
    | next => exact False.elim hq
    | brk => exact False.elim hq
    | cont => exact False.elim hq
theorem pe_propQ (he : PE X e ta) (c : Cls X.K C) (hp : PropOf X.K C f p g) (F : FnQ X.prog X.w X.K X.mg X.base k g fd ps sp) (hr : RoomH (k + 1) X.A) (hc : ∃ q, q ∈ X.pn) (hb : Binds X.K fd ps []) (hx : Passes CX0 X.nox E)
    (hab : attributeBase e f X.env (eval e X.env) = eval e X.env) : PE X (.Attribute e f pos) (tProp C sp [] E ta) := by
  refine ⟨fun pins s σ H Q I h => ?_⟩
  refine attr_of hab (thn (he.run pins s σ H _ I h) fun u s1 ⟨x, H1, I1, rx, a, dx, fs, ex, ea, q⟩ => ?_)
  subst ex
  obtain rfl : u = Value.ref a := rx
  exact getpropQ I1 ea c hp F hr hc hb hx q
end
end XL
set_option Elab.async false
set_option linter.all false
set_option maxRecDepth 100000
set_option maxHeartbeats 4000000
namespace K02
open PySem PySem.Spec PyProof.Rows L2 XL
def topS (i : Nat) : Stmt := PySem.Challenge.pw_drawnanew_k02_form_refusals.main.body.getD i (.Pass ⟨0, 0, 0, 0⟩)
abbrev s_is_name : Stmt := topS 8
theorem sc_is_name : FnScope ["thing", "sign"] ["thing"] (defScope s_is_name) := ⟨rfl, rfl, rfl, by decide +kernel, rfl, by decide +kernel, by decide +kernel⟩
abbrev s_is_number : Stmt := topS 9
theorem sc_is_number : FnScope ["thing", "low", "high"] ["thing", "low", "high"] (defScope s_is_number) := ⟨rfl, rfl, rfl, by decide +kernel, rfl, by decide +kernel, by decide +kernel⟩
abbrev s_is_part : Stmt := topS 13
theorem sc_is_part : FnScope ["part"] ["part"] (defScope s_is_part) := ⟨rfl, rfl, rfl, by decide +kernel, rfl, by decide +kernel, by decide +kernel⟩
abbrev s_check_form : Stmt := topS 14
theorem sc_check_form : FnScope ["parts", "waiting", "deepest", "part", "level", "at"] ["parts"] (defScope s_check_form) := ⟨rfl, rfl, rfl, by decide +kernel, rfl, by decide +kernel, by decide +kernel⟩
abbrev s_value_of : Stmt := topS 15
theorem sc_value_of : FnScope ["parts", "values", "first", "second"] ["parts", "values"] (defScope s_value_of) := ⟨rfl, rfl, rfl, by decide +kernel, rfl, by decide +kernel, by decide +kernel⟩
abbrev s_names_of : Stmt := topS 16
theorem sc_names_of : FnScope ["parts", "found", "piece", "told"] ["parts"] (defScope s_names_of) := ⟨rfl, rfl, rfl, by decide +kernel, rfl, by decide +kernel, by decide +kernel⟩
abbrev s_write_form : Stmt := topS 17
theorem sc_write_form : FnScope ["parts", "pieces", "piece"] ["parts"] (defScope s_write_form) := ⟨rfl, rfl, rfl, by decide +kernel, rfl, by decide +kernel, by decide +kernel⟩
abbrev s_Form_init : Stmt := inClass (topS 18) 0
theorem sc_Form_init : FnScope ["self", "parts"] ["self", "parts"] (defScope s_Form_init) := ⟨rfl, rfl, rfl, by decide +kernel, rfl, by decide +kernel, by decide +kernel⟩
abbrev s_Form_parts : Stmt := inClass (topS 18) 1
theorem sc_Form_parts : FnScope ["self"] ["self"] (defScope s_Form_parts) := ⟨rfl, rfl, rfl, by decide +kernel, rfl, by decide +kernel, by decide +kernel⟩
abbrev s_Form_add : Stmt := inClass (topS 18) 4
theorem sc_Form_add : FnScope ["self", "other"] ["self", "other"] (defScope s_Form_add) := ⟨rfl, rfl, rfl, by decide +kernel, rfl, by decide +kernel, by decide +kernel⟩
abbrev s_Form_constant : Stmt := inClass (topS 18) 7
theorem sc_Form_constant : FnScope ["value"] ["value"] (defScope s_Form_constant) := ⟨rfl, rfl, rfl, by decide +kernel, rfl, by decide +kernel, by decide +kernel⟩
abbrev s_Form_named : Stmt := inClass (topS 18) 8
theorem sc_Form_named : FnScope ["name"] ["name"] (defScope s_Form_named) := ⟨rfl, rfl, rfl, by decide +kernel, rfl, by decide +kernel, by decide +kernel⟩
abbrev s_Form_summed : Stmt := inClass (topS 18) 9
theorem sc_Form_summed : FnScope ["cls", "first", "rest", "total", "form"] ["cls", "first", "rest"] (defScope s_Form_summed) := ⟨rfl, rfl, rfl, by decide +kernel, rfl, by decide +kernel, by decide +kernel⟩
abbrev s_mixed : Stmt := topS 20
theorem sc_mixed : FnScope ["_law_number_here", "_law_turn", "_law_first", "_law_second"] ["_law_number_here", "_law_turn"] (defScope s_mixed) := ⟨rfl, rfl, rfl, by decide +kernel, rfl, by decide +kernel, by decide +kernel⟩
abbrev s_bag : Stmt := topS 21
theorem sc_bag : FnScope ["_law_script", "_law_cell", "_law_numbers", "_law_seed", "_law_at"] ["_law_script"] (defScope s_bag) := ⟨rfl, rfl, rfl, by decide +kernel, rfl, by decide +kernel, by decide +kernel⟩
abbrev s_pick : Stmt := topS 22
theorem sc_pick : FnScope ["_law_bag_here", "_law_many", "_law_turn", "_law_cell", "_law_worth"] ["_law_bag_here", "_law_many"] (defScope s_pick) := ⟨rfl, rfl, rfl, by decide +kernel, rfl, by decide +kernel, by decide +kernel⟩
abbrev s_choice : Stmt := topS 23
theorem sc_choice : FnScope ["_law_bag_here", "_law_things"] ["_law_bag_here", "_law_things"] (defScope s_choice) := ⟨rfl, rfl, rfl, by decide +kernel, rfl, by decide +kernel, by decide +kernel⟩
abbrev s_number : Stmt := topS 24
theorem sc_number : FnScope ["_law_thing"] ["_law_thing"] (defScope s_number) := ⟨rfl, rfl, rfl, by decide +kernel, rfl, by decide +kernel, by decide +kernel⟩
abbrev s_new_name : Stmt := topS 25
theorem sc_new_name : FnScope ["_law_bag_here", "_law_used", "_law_letters", "_law_told", "_law_near", "_law_at", "_law_tails", "_law_step", "_law_k", "_law_tail"] ["_law_bag_here", "_law_used"] (defScope s_new_name) := ⟨rfl, rfl, rfl, by decide +kernel, rfl, by decide +kernel, by decide +kernel⟩
abbrev s_form : Stmt := topS 26
theorem sc_form : FnScope ["_law_bag_here", "_law_readable", "_law_levels_here", "_law_way", "_law_first", "_law_second"] ["_law_bag_here", "_law_readable", "_law_levels_here"] (defScope s_form) := ⟨rfl, rfl, rfl, by decide +kernel, rfl, by decide +kernel, by decide +kernel⟩
abbrev s_tall : Stmt := topS 27
theorem sc_tall : FnScope ["_law_bag_here", "_law_readable", "_law_levels_here", "_law_parts", "_law_word", "_law_step"] ["_law_bag_here", "_law_readable", "_law_levels_here"] (defScope s_tall) := ⟨rfl, rfl, rfl, by decide +kernel, rfl, by decide +kernel, by decide +kernel⟩
abbrev s_drawn_form : Stmt := topS 28
theorem sc_drawn_form : FnScope ["_law_bag_here", "_law_readable", "_law_levels_here"] ["_law_bag_here", "_law_readable"] (defScope s_drawn_form) := ⟨rfl, rfl, rfl, by decide +kernel, rfl, by decide +kernel, by decide +kernel⟩
abbrev s_deeper : Stmt := topS 29
theorem sc_deeper : FnScope ["_law_bag_here", "_law_readable", "_law_parts", "_law_times", "_law_step", "_law_others", "_law_way"] ["_law_bag_here", "_law_readable", "_law_parts", "_law_times"] (defScope s_deeper) := ⟨rfl, rfl, rfl, by decide +kernel, rfl, by decide +kernel, by decide +kernel⟩
abbrev s_count : Stmt := topS 30
theorem sc_count : FnScope ["_law_parts", "_law_part"] ["_law_parts"] (defScope s_count) := ⟨rfl, rfl, rfl, by decide +kernel, rfl, by decide +kernel, by decide +kernel⟩
abbrev s_odd_value : Stmt := topS 31
theorem sc_odd_value : FnScope ["_law_odd", "_law_told", "_law_things"] ["_law_odd", "_law_told"] (defScope s_odd_value) := ⟨rfl, rfl, rfl, by decide +kernel, rfl, by decide +kernel, by decide +kernel⟩
abbrev s_odd_name : Stmt := topS 32
theorem sc_odd_name : FnScope ["_law_odd", "_law_told", "_law_things"] ["_law_odd", "_law_told"] (defScope s_odd_name) := ⟨rfl, rfl, rfl, by decide +kernel, rfl, by decide +kernel, by decide +kernel⟩
abbrev s_bad : Stmt := topS 33
theorem sc_bad : FnScope ["_law_part", "_law_how", "_law_odd", "_law_told", "_law_words"] ["_law_part", "_law_how", "_law_odd", "_law_told"] (defScope s_bad) := ⟨rfl, rfl, rfl, by decide +kernel, rfl, by decide +kernel, by decide +kernel⟩
abbrev s_spoils : Stmt := topS 34
theorem sc_spoils : FnScope ["_law_bag_here", "_law_used", "_law_parts", "_law_out", "_law_step", "_law_number_here"] ["_law_bag_here", "_law_used", "_law_parts"] (defScope s_spoils) := ⟨rfl, rfl, rfl, by decide +kernel, rfl, by decide +kernel, by decide +kernel⟩
abbrev s_spoilt : Stmt := topS 35
theorem sc_spoilt : FnScope ["_law_parts", "_law_number_here", "_law_spoils_here", "_law_built", "_law_out", "_law_following", "_law_part", "_law_place", "_law_how", "_law_odd", "_law_told"] ["_law_parts", "_law_number_here", "_law_spoils_here"] (defScope s_spoilt) := ⟨rfl, rfl, rfl, by decide +kernel, rfl, by decide +kernel, by decide +kernel⟩
abbrev s_law_is_name : Stmt := topS 36
theorem sc_law_is_name : FnScope ["_law_told", "_law_letter"] ["_law_told"] (defScope s_law_is_name) := ⟨rfl, rfl, rfl, by decide +kernel, rfl, by decide +kernel, by decide +kernel⟩
abbrev s_first_wrong : Stmt := topS 37
theorem sc_first_wrong : FnScope ["_law_part", "_law_words", "_law_inner", "_law_found"] ["_law_part"] (defScope s_first_wrong) := ⟨rfl, rfl, rfl, by decide +kernel, rfl, by decide +kernel, by decide +kernel⟩
abbrev s_levels : Stmt := topS 38
theorem sc_levels : FnScope ["_law_parts", "_law_deepest", "_law_part", "_law_levels_here"] ["_law_parts"] (defScope s_levels) := ⟨rfl, rfl, rfl, by decide +kernel, rfl, by decide +kernel, by decide +kernel⟩
abbrev s_wrong : Stmt := topS 39
theorem sc_wrong : FnScope ["_law_parts", "_law_found"] ["_law_parts"] (defScope s_wrong) := ⟨rfl, rfl, rfl, by decide +kernel, rfl, by decide +kernel, by decide +kernel⟩
abbrev s_due_error : Stmt := topS 40
theorem sc_due_error : FnScope ["_law_error", "_law_due"] ["_law_error", "_law_due"] (defScope s_due_error) := ⟨rfl, rfl, rfl, by decide +kernel, rfl, by decide +kernel, by decide +kernel⟩
abbrev s_judged : Stmt := topS 41
theorem sc_judged : FnScope ["_law_parts", "_law_due", "_law_kept", "_law_found", "e"] ["_law_parts"] (defScope s_judged) := ⟨rfl, rfl, rfl, by decide +kernel, rfl, by decide +kernel, by decide +kernel⟩
abbrev s_constant : Stmt := topS 42
theorem sc_constant : FnScope ["_law_value", "_law_due", "_law_found", "e"] ["_law_value"] (defScope s_constant) := ⟨rfl, rfl, rfl, by decide +kernel, rfl, by decide +kernel, by decide +kernel⟩
abbrev s_named : Stmt := topS 43
theorem sc_named : FnScope ["_law_value", "_law_due", "_law_found", "e"] ["_law_value"] (defScope s_named) := ⟨rfl, rfl, rfl, by decide +kernel, rfl, by decide +kernel, by decide +kernel⟩
abbrev s_added : Stmt := topS 44
theorem sc_added : FnScope ["_law_first", "_law_second", "_law_way", "_law_due", "_law_left", "_law_right", "_law_found", "e"] ["_law_first", "_law_second", "_law_way"] (defScope s_added) := ⟨rfl, rfl, rfl, by decide +kernel, rfl, by decide +kernel, by decide +kernel⟩
abbrev s_law : Stmt := topS 45
theorem sc_law : FnScope ["_law_script", "_law_bag_here", "_law_used", "_law_step", "_law_good", "_law_times", "_law_parts", "_law_spoils_here", "_law_told", "_law_odd", "_law_tall_here", "_law_other", "_law_way"] ["_law_script"] (defScope s_law) := ⟨rfl, rfl, rfl, by decide +kernel, rfl, by decide +kernel, by decide +kernel⟩
abbrev s_BadForm_init : Stmt := inClass (topS 2) 0
/-- what the top leaves -/
structure Top (K : PySem.W.Frag) (mg : Str → Option Value) (W : World) where
  m_ValueError : mg "ValueError" = none
  m_abs : mg "abs" = none
  m_all : mg "all" = none
  m_bool : mg "bool" = none
  m_enumerate : mg "enumerate" = none
  m_int : mg "int" = none
  m_isinstance : mg "isinstance" = none
  m_len : mg "len" = none
  m_list : mg "list" = none
  m_range : mg "range" = none
  m_repr : mg "repr" = none
  m_str : mg "str" = none
  m_sum : mg "sum" = none
  m_tuple : mg "tuple" = none
  v_LETTERS : ∃ t, mg "LETTERS" = some (.str "abcdefghijklmnopqrstuvwxyz" t)
  v_MOST_LEVELS : ∃ t, mg "MOST_LEVELS" = some (.int 5 t)
  a_is_name : Addr
  d_is_name : FuncData
  F_is_name : Fun K "is_name" "is_name" s_is_name a_is_name d_is_name
  b_is_name : Binds K d_is_name ["thing"] []
  g_is_name : mg "is_name" = some (.ref a_is_name)
  a_is_number : Addr
  d_is_number : FuncData
  F_is_number : Fun K "is_number" "is_number" s_is_number a_is_number d_is_number
  b_is_number : Binds K d_is_number ["thing", "low", "high"] []
  g_is_number : mg "is_number" = some (.ref a_is_number)
  a_is_part : Addr
  d_is_part : FuncData
  F_is_part : Fun K "is_part" "is_part" s_is_part a_is_part d_is_part
  b_is_part : Binds K d_is_part ["part"] []
  g_is_part : mg "is_part" = some (.ref a_is_part)
  a_check_form : Addr
  d_check_form : FuncData
  F_check_form : Fun K "check_form" "check_form" s_check_form a_check_form d_check_form
  b_check_form : Binds K d_check_form ["parts"] []
  g_check_form : mg "check_form" = some (.ref a_check_form)
  a_value_of : Addr
  d_value_of : FuncData
  F_value_of : Fun K "value_of" "value_of" s_value_of a_value_of d_value_of
  b_value_of : Binds K d_value_of ["parts", "values"] []
  g_value_of : mg "value_of" = some (.ref a_value_of)
  a_names_of : Addr
  d_names_of : FuncData
  F_names_of : Fun K "names_of" "names_of" s_names_of a_names_of d_names_of
  b_names_of : Binds K d_names_of ["parts"] []
  g_names_of : mg "names_of" = some (.ref a_names_of)
  a_write_form : Addr
  d_write_form : FuncData
  F_write_form : Fun K "write_form" "write_form" s_write_form a_write_form d_write_form
  b_write_form : Binds K d_write_form ["parts"] []
  g_write_form : mg "write_form" = some (.ref a_write_form)
  a_Form_init : Addr
  d_Form_init : FuncData
  F_Form_init : Fun K "__init__" "Form.__init__" s_Form_init a_Form_init d_Form_init
  b_Form_init : Binds K d_Form_init ["self", "parts"] []
  a_Form_parts : Addr
  d_Form_parts : FuncData
  F_Form_parts : Fun K "parts" "Form.parts" s_Form_parts a_Form_parts d_Form_parts
  b_Form_parts : Binds K d_Form_parts ["self"] []
  a_Form_add : Addr
  d_Form_add : FuncData
  F_Form_add : Fun K "__add__" "Form.__add__" s_Form_add a_Form_add d_Form_add
  b_Form_add : Binds K d_Form_add ["self", "other"] []
  a_Form_constant : Addr
  d_Form_constant : FuncData
  F_Form_constant : Fun K "constant" "Form.constant" s_Form_constant a_Form_constant d_Form_constant
  b_Form_constant : Binds K d_Form_constant ["value"] []
  a_Form_named : Addr
  d_Form_named : FuncData
  F_Form_named : Fun K "named" "Form.named" s_Form_named a_Form_named d_Form_named
  b_Form_named : Binds K d_Form_named ["name"] []
  a_Form_summed : Addr
  d_Form_summed : FuncData
  F_Form_summed : Fun K "summed" "Form.summed" s_Form_summed a_Form_summed d_Form_summed
  b_Form_summed : BindsS d_Form_summed ["cls", "first"] "rest"
  a_mixed : Addr
  d_mixed : FuncData
  F_mixed : Fun K "_law_mixed" "_law_mixed" s_mixed a_mixed d_mixed
  b_mixed : Binds K d_mixed ["_law_number_here", "_law_turn"] []
  g_mixed : mg "_law_mixed" = some (.ref a_mixed)
  a_bag : Addr
  d_bag : FuncData
  F_bag : Fun K "_law_bag" "_law_bag" s_bag a_bag d_bag
  b_bag : Binds K d_bag ["_law_script"] []
  g_bag : mg "_law_bag" = some (.ref a_bag)
  a_pick : Addr
  d_pick : FuncData
  F_pick : Fun K "_law_pick" "_law_pick" s_pick a_pick d_pick
  b_pick : Binds K d_pick ["_law_bag_here", "_law_many"] []
  g_pick : mg "_law_pick" = some (.ref a_pick)
  a_choice : Addr
  d_choice : FuncData
  F_choice : Fun K "_law_choice" "_law_choice" s_choice a_choice d_choice
  b_choice : Binds K d_choice ["_law_bag_here", "_law_things"] []
  g_choice : mg "_law_choice" = some (.ref a_choice)
  a_number : Addr
  d_number : FuncData
  F_number : Fun K "_law_number" "_law_number" s_number a_number d_number
  b_number : Binds K d_number ["_law_thing"] []
  g_number : mg "_law_number" = some (.ref a_number)
  a_new_name : Addr
  d_new_name : FuncData
  F_new_name : Fun K "_law_new_name" "_law_new_name" s_new_name a_new_name d_new_name
  b_new_name : Binds K d_new_name ["_law_bag_here", "_law_used"] []
  g_new_name : mg "_law_new_name" = some (.ref a_new_name)
  a_form : Addr
  d_form : FuncData
  F_form : Fun K "_law_form" "_law_form" s_form a_form d_form
  b_form : Binds K d_form ["_law_bag_here", "_law_readable", "_law_levels_here"] []
  g_form : mg "_law_form" = some (.ref a_form)
  a_tall : Addr
  d_tall : FuncData
  F_tall : Fun K "_law_tall" "_law_tall" s_tall a_tall d_tall
  b_tall : Binds K d_tall ["_law_bag_here", "_law_readable", "_law_levels_here"] []
  g_tall : mg "_law_tall" = some (.ref a_tall)
  a_drawn_form : Addr
  d_drawn_form : FuncData
  F_drawn_form : Fun K "_law_drawn_form" "_law_drawn_form" s_drawn_form a_drawn_form d_drawn_form
  b_drawn_form : Binds K d_drawn_form ["_law_bag_here", "_law_readable"] []
  g_drawn_form : mg "_law_drawn_form" = some (.ref a_drawn_form)
  a_deeper : Addr
  d_deeper : FuncData
  F_deeper : Fun K "_law_deeper" "_law_deeper" s_deeper a_deeper d_deeper
  b_deeper : Binds K d_deeper ["_law_bag_here", "_law_readable", "_law_parts", "_law_times"] []
  g_deeper : mg "_law_deeper" = some (.ref a_deeper)
  a_count : Addr
  d_count : FuncData
  F_count : Fun K "_law_count" "_law_count" s_count a_count d_count
  b_count : Binds K d_count ["_law_parts"] []
  g_count : mg "_law_count" = some (.ref a_count)
  a_odd_value : Addr
  d_odd_value : FuncData
  F_odd_value : Fun K "_law_odd_value" "_law_odd_value" s_odd_value a_odd_value d_odd_value
  b_odd_value : Binds K d_odd_value ["_law_odd", "_law_told"] []
  g_odd_value : mg "_law_odd_value" = some (.ref a_odd_value)
  a_odd_name : Addr
  d_odd_name : FuncData
  F_odd_name : Fun K "_law_odd_name" "_law_odd_name" s_odd_name a_odd_name d_odd_name
  b_odd_name : Binds K d_odd_name ["_law_odd", "_law_told"] []
  g_odd_name : mg "_law_odd_name" = some (.ref a_odd_name)
  a_bad : Addr
  d_bad : FuncData
  F_bad : Fun K "_law_bad" "_law_bad" s_bad a_bad d_bad
  b_bad : Binds K d_bad ["_law_part", "_law_how", "_law_odd", "_law_told"] []
  g_bad : mg "_law_bad" = some (.ref a_bad)
  a_spoils : Addr
  d_spoils : FuncData
  F_spoils : Fun K "_law_spoils" "_law_spoils" s_spoils a_spoils d_spoils
  b_spoils : Binds K d_spoils ["_law_bag_here", "_law_used", "_law_parts"] []
  g_spoils : mg "_law_spoils" = some (.ref a_spoils)
  a_spoilt : Addr
  d_spoilt : FuncData
  F_spoilt : Fun K "_law_spoilt" "_law_spoilt" s_spoilt a_spoilt d_spoilt
  b_spoilt : Binds K d_spoilt ["_law_parts", "_law_number_here", "_law_spoils_here"] []
  g_spoilt : mg "_law_spoilt" = some (.ref a_spoilt)
  a_law_is_name : Addr
  d_law_is_name : FuncData
  F_law_is_name : Fun K "_law_is_name" "_law_is_name" s_law_is_name a_law_is_name d_law_is_name
  b_law_is_name : Binds K d_law_is_name ["_law_told"] []
  g_law_is_name : mg "_law_is_name" = some (.ref a_law_is_name)
  a_first_wrong : Addr
  d_first_wrong : FuncData
  F_first_wrong : Fun K "_law_first_wrong" "_law_first_wrong" s_first_wrong a_first_wrong d_first_wrong
  b_first_wrong : Binds K d_first_wrong ["_law_part"] []
  g_first_wrong : mg "_law_first_wrong" = some (.ref a_first_wrong)
  a_levels : Addr
  d_levels : FuncData
  F_levels : Fun K "_law_levels" "_law_levels" s_levels a_levels d_levels
  b_levels : Binds K d_levels ["_law_parts"] []
  g_levels : mg "_law_levels" = some (.ref a_levels)
  a_wrong : Addr
  d_wrong : FuncData
  F_wrong : Fun K "_law_wrong" "_law_wrong" s_wrong a_wrong d_wrong
  b_wrong : Binds K d_wrong ["_law_parts"] []
  g_wrong : mg "_law_wrong" = some (.ref a_wrong)
  a_due_error : Addr
  d_due_error : FuncData
  F_due_error : Fun K "_law_due_error" "_law_due_error" s_due_error a_due_error d_due_error
  b_due_error : Binds K d_due_error ["_law_error", "_law_due"] []
  g_due_error : mg "_law_due_error" = some (.ref a_due_error)
  a_judged : Addr
  d_judged : FuncData
  F_judged : Fun K "_law_judged" "_law_judged" s_judged a_judged d_judged
  b_judged : Binds K d_judged ["_law_parts"] []
  g_judged : mg "_law_judged" = some (.ref a_judged)
  a_constant : Addr
  d_constant : FuncData
  F_constant : Fun K "_law_constant" "_law_constant" s_constant a_constant d_constant
  b_constant : Binds K d_constant ["_law_value"] []
  g_constant : mg "_law_constant" = some (.ref a_constant)
  a_named : Addr
  d_named : FuncData
  F_named : Fun K "_law_named" "_law_named" s_named a_named d_named
  b_named : Binds K d_named ["_law_value"] []
  g_named : mg "_law_named" = some (.ref a_named)
  a_added : Addr
  d_added : FuncData
  F_added : Fun K "_law_added" "_law_added" s_added a_added d_added
  b_added : Binds K d_added ["_law_first", "_law_second", "_law_way"] []
  g_added : mg "_law_added" = some (.ref a_added)
  a_law : Addr
  d_law : FuncData
  F_law : Fun K "law" "law" s_law a_law d_law
  b_law : Binds K d_law ["_law_script"] []
  g_law : mg "law" = some (.ref a_law)
  D_COUNTS : Addr
  e_COUNTS : Array DictEntry
  n_COUNTS : Nat
  g_COUNTS : mg "COUNTS" = some (.ref D_COUNTS)
  l_COUNTS : K.lookup D_COUNTS = some ⟨.type "dict", none, .dict e_COUNTS n_COUNTS, #[]⟩
  q_COUNTS : PySem.W.KeysLit W.params e_COUNTS.toList
  w_COUNTS : (D_COUNTS == sysModules) = false
  k_COUNTS_0 : ∃ t, PySem.W.nsIn K D_COUNTS "is" = some (some (.int 2 t))
  k_COUNTS_1 : ∃ t, PySem.W.nsIn K D_COUNTS "get" = some (some (.int 2 t))
  k_COUNTS_2 : ∃ t, PySem.W.nsIn K D_COUNTS "sum" = some (some (.int 3 t))
  k_COUNTS_3 : ∃ t, PySem.W.nsIn K D_COUNTS "same" = some (some (.int 3 t))
  k_COUNTS_4 : ∃ t, PySem.W.nsIn K D_COUNTS "pick" = some (some (.int 4 t))
  z_COUNTS : ∃ t0 t1 t2 t3 t4, e_COUNTS.toList.map (fun e => e.key) = [.str "is" t0, .str "get" t1, .str "sum" t2, .str "same" t3, .str "pick" t4]
  C_Form : Addr
  g_Form : mg "Form" = some (.ref C_Form)
  cl_Form : Cls K C_Form
  na_Form__parts : NoAttr K C_Form "_parts"
  mk_Form : Mk K C_Form a_Form_init
  sp_Form_add : PySem.W.findIn K (.ref C_Form) "__add__" = some (some (.ref a_Form_add)) ∧ PySem.W.isFn K (.ref a_Form_add) = true
  p_Form_parts : Addr
  pr_Form_parts : PropOf K C_Form "parts" p_Form_parts a_Form_parts
  mc_Form : Value
  cr_Form : ClX.CRead K C_Form mc_Form
  sm_Form_constant : SMet K C_Form mc_Form "constant" a_Form_constant
  sm_Form_named : SMet K C_Form mc_Form "named" a_Form_named
  p_Form_summed : Addr
  cm_Form_summed : ClX.CMet K C_Form mc_Form "summed" p_Form_summed a_Form_summed
  ty_Form : PySem.W.findIn K (.ref C_Form) "__class__" = some (some (.builtin "object.__class__")) ∧ PySem.W.specialIn K (.builtin "object.__class__") "__get__" = some (some (.builtin "getset_descriptor.__get__")) ∧ PySem.W.takesIn K (.builtin "object.__class__") = some true ∧ PySem.W.mroIn K C_Form (.type "object") = some true ∧ PySem.W.kitOne K (.ref C_Form) (.ref C_Form) = some true
  x_file : Str
  C_ScreenError : Addr
  g_ScreenError : mg "ScreenError" = some (.ref C_ScreenError)
  C_TooMany : Addr
  g_TooMany : mg "TooMany" = some (.ref C_TooMany)
  C_NoName : Addr
  g_NoName : mg "NoName" = some (.ref C_NoName)
  C_BadNames : Addr
  g_BadNames : mg "BadNames" = some (.ref C_BadNames)
  C_BadForm : Addr
  i_BadForm : Addr
  g_BadForm : mg "BadForm" = some (.ref C_BadForm)
  x_BadForm : ∀ P : Program, PySem.XExc.PF P x_file → PySem.XExc.ExTxt P K mg "BadForm" "part" "not a form: " C_BadForm i_BadForm
  xcv_BadForm : PySem.XExc.CvR K i_BadForm
  xc_BadForm : ExcC K C_BadForm
  xf_BadForm : XfC K C_BadForm
  ki_BadForm_NoName : PySem.W.kitOne K (.ref C_BadForm) (.ref C_NoName) = some false
  ki_BadForm_TooMany : PySem.W.kitOne K (.ref C_BadForm) (.ref C_TooMany) = some false
  ki_BadForm_BadNames : PySem.W.kitOne K (.ref C_BadForm) (.ref C_BadNames) = some false
  kv_BadForm : PySem.W.kitOne K (.ref C_BadForm) (.type "ValueError") = some true
  em_BadForm_ScreenError : PySem.W.exmOne K (.ref C_BadForm) (.ref C_ScreenError) = some true
  em_BadForm_BadForm : PySem.W.exmOne K (.ref C_BadForm) (.ref C_BadForm) = some true
  fst_Form : PySem.W.firstIn K C_Form = true
/-! ### the bag -/
structure Bag (G : Hp) (o : HO) : Prop where
  ex : ∃ (n : Addr) (ns : List Int) (i g t s : Int), o = .lst [.ref n, .int i, .int g, .int t, .int s] ∧ G n = some (.lst (ns.map V.int)) ∧ 0 ≤ i ∧ 0 ≤ g
theorem Bag.same {G G' : Hp} {o : HO} (e : Same G G') (b : Bag G o) : Bag G' o := by
  obtain ⟨n, ns, i, g, t, s, h1, h2, h3⟩ := b.ex
  exact ⟨n, ns, i, g, t, s, h1, e _ _ h2, h3⟩

section
variable {P : Program} {w : World} {K : PySem.W.Frag} {mg : Str → Option Value} {base : Heap}
def spMixed : Sp := fun vs H Q _ => ∃ n t : Int, vs = [.int n, .int t] ∧ ∀ r : Int, 0 ≤ r → r < 2147483587 → Q (.int r) H
theorem ok_mixed (T : Top K mg w) {k : Nat} : FnOk P w K mg base CX0 (k + 1) T.a_mixed T.d_mixed ["_law_number_here", "_law_turn"] spMixed := by
  refine T.F_mixed.ok sc_mixed (fun vs H Q E h => ?_) (fun cdv A outer s H vs Q E hr h => ?_)
  · obtain ⟨n, t, rfl, _⟩ := h
    rfl
  · obtain ⟨n, t, rfl, q⟩ := h
    refine ⟨_, (pss_cons (ps_set (i := 2) sc_mixed.nd rfl (.inl rfl) (pe_op op_modY (pe_callTy cr_int (by rfl) T.m_int (by decide +kernel) (pa_cons (pe_op op_addY (pe_op op_mulY (pe_op op_addY (xv 0) pe_int) pe_int) (pe_op op_mulY (pe_op op_addY (xv 1) pe_int) pe_int)) pa_nil)) pe_int))
      (pss_cons (ps_set (i := 3) sc_mixed.nd rfl (.inl rfl) (pe_op op_modY (pe_callTy cr_int (by rfl) T.m_int (by decide +kernel) (pa_cons (pe_op op_addY (pe_op op_addY (pe_op op_mulY (xv 2) (xv 2)) (pe_op op_mulY (xv 2) pe_int)) (pe_op op_mulY (pe_op op_addY (xv 1) pe_int) pe_int)) pa_nil)) pe_int))
      (pss_one (ps_ret (pe_op op_modY (pe_callTy cr_int (by rfl) T.m_int (by decide +kernel) (pa_cons (pe_op op_addY (pe_op op_addY (pe_op op_divY (xv 3) pe_int) (pe_op op_mulY (xv 3) pe_int)) (xv 1)) pa_nil)) pe_int))))), ?_⟩
    refine ⟨.inr ⟨by decide, by decide⟩, .inr ⟨by decide, by decide⟩, by decide, fun f _ f0 f1 => ?_⟩
    refine ⟨.inl ⟨by omega, by omega⟩, .inr ⟨by decide, by decide⟩, .inr ⟨by decide, by decide⟩, by decide, fun g _ g0 g1 => ?_⟩
    refine ⟨⟨by decide, by decide⟩, fun d _ _ => ⟨.inr ⟨by decide, by decide⟩, by decide, fun r _ r0 r1 => ?_⟩⟩
    exact q r r0 r1

def spPick : Sp := fun vs H Q _ => ∃ (G : Hp) (M : List (Addr × HO)) (b : Addr) (o : HO) (n : Int), vs = [.ref b, .int n] ∧ Sep G ((b, o) :: M) H ∧ Bag G o ∧ 0 < n ∧ n < 1073741824 ∧
  ∀ (r : Int) (o' : HO) (H' : Hp), 0 ≤ r → r < n → Bag G o' → Sep G ((b, o') :: M) H' → Q (.int r) H'
theorem ok_pick (T : Top K mg w) {k : Nat} (G_mixed : FnOk P w K mg base CX0 (k + 1) T.a_mixed T.d_mixed ["_law_number_here", "_law_turn"] spMixed) :
    FnOk P w K mg base CX0 (k + 2) T.a_pick T.d_pick ["_law_bag_here", "_law_many"] spPick := by
  refine T.F_pick.ok sc_pick (fun vs H Q E h => ?_) (fun cdv A outer s H vs Q E hr h => ?_)
  · obtain ⟨G, M, b, o, n, rfl, _⟩ := h
    rfl
  · obtain ⟨G, M, b, o, n, rfl, S, B, n0, n1, q⟩ := h
    obtain ⟨N, ns, i, g, t, z, rfl, hN, i0, g0⟩ := B.ex
    refine ⟨_, (pss_cons (ps_set (i := 2) sc_pick.nd rfl (.inl rfl) (pe_ix (ix_k K) (xv 0) pe_int (fun _ _ => rfl)))
      (pss_cons (ps_asg (pe_op op_addY (xv 2) pe_int) (pg_sub (xv 0) pe_int set_list))
      (xss_cut (xs_if (PW.pt (xw_and (xt_cmp (op_eqLK K hr.u190) (pe_ix (ix_k K) (xv 0) pe_int (fun _ _ => rfl)) pe_int (nomark _)) (pw_and1 (xt_cmp op_ltY (pe_ix (ix_k K) (xv 0) pe_int (fun _ _ => rfl)) (pe_callB (cr_lenK K) (by rfl) T.m_len (by decide +kernel) (pa_cons (pe_ix (ix_k K) (xv 0) pe_int (fun _ _ => rfl)) pa_nil)) (nomark _)))))
      (pss_cons (ps_set (i := 3) sc_pick.nd rfl (.inl rfl) (pe_ix (ix_k K) (pe_ix (ix_k K) (xv 0) pe_int (fun _ _ => rfl)) (pe_ix (ix_k K) (xv 0) pe_int (fun _ _ => rfl)) (fun _ _ => rfl)))
      (pss_cons (ps_asg (pe_op op_addY (pe_ix (ix_k K) (xv 0) pe_int (fun _ _ => rfl)) pe_int) (pg_sub (xv 0) pe_int set_list))
      (pss_cons (xs_if (xt_cmp op_ltY (pe_callB cr_abs (by rfl) T.m_abs (by decide +kernel) (pa_cons (xv 3) pa_nil)) (pe_op op_powY pe_int pe_int) (nomark _))
      (pss_one (ps_ret (pe_op op_modY (pe_callTy cr_int (by rfl) T.m_int (by decide +kernel) (pa_cons (pe_call G_mixed (hr.mono (by omega)) (by rfl) T.g_mixed T.F_mixed.kp T.b_mixed .nil pass0 (pa_cons (pe_op op_addY (pe_op op_mulY pe_int (pe_callB cr_abs (by rfl) T.m_abs (by decide +kernel) (pa_cons (xv 3) pa_nil))) (pe_cmpR op_ltY (xv 3) pe_int (nomark _))) (pa_cons (xv 2) pa_nil))) pa_nil)) (xv 1))))
      pss_nil)
      (pss_one (ps_asg (pe_callB cr_abs (by rfl) T.m_abs (by decide +kernel) (pa_cons (xv 3) pa_nil)) (pg_sub (xv 0) pe_int set_list))))))
      pss_nil)
      (pss_cons (xs_if (xt_cmp (op_eqLK K hr.u190) (pe_ix (ix_k K) (xv 0) pe_int (fun _ _ => rfl)) pe_int (nomark _))
      (pss_one (ps_ret (pe_op op_modY (pe_callTy cr_int (by rfl) T.m_int (by decide +kernel) (pa_cons (pe_call G_mixed (hr.mono (by omega)) (by rfl) T.g_mixed T.F_mixed.kp T.b_mixed .nil pass0 (pa_cons (pe_ix (ix_k K) (xv 0) pe_int (fun _ _ => rfl)) (pa_cons (xv 2) pa_nil))) pa_nil)) (xv 1))))
      pss_nil)
      (pss_cons (ps_set (i := 4) sc_pick.nd rfl (.inl rfl) (pe_op op_modY (pe_callTy cr_int (by rfl) T.m_int (by decide +kernel) (pa_cons (pe_ix (ix_k K) (xv 0) pe_int (fun _ _ => rfl)) pa_nil)) (xv 1)))
      (pss_cons (ps_asg (pe_op op_divY (pe_ix (ix_k K) (xv 0) pe_int (fun _ _ => rfl)) (xv 1)) (pg_sub (xv 0) pe_int set_list))
      (pss_one (ps_ret (xv 4))))))))), ?_⟩
    -- the turn
    refine ⟨_, _, .inl (SqL.of S.hd), rfl, b, _, _, 3, rfl, rfl, S.hd, rfl, ?_⟩
    have S1 := S.set (o' := .lst [.ref N, .int i, .int g, .int (t + 1), .int z])
    have fin : ∀ (j : Int) (g' : Int) (H2 : Hp), 0 ≤ j → 0 ≤ g' → Sep G ((b, .lst [.ref N, .int j, .int g', .int (t + 1), .int z]) :: M) H2 → (g' = 0 → ∀ r : Int, 0 ≤ r → r < n → Q (.int r) H2) ∧
        (∀ (r d : Int), 0 ≤ r → r < n → 0 ≤ d → Q (.int r) (upd H2 b (.lst [.ref N, .int j, .int d, .int (t + 1), .int z]))) := fun j g' H2 j0 h0 S2 =>
      ⟨fun _ r r0 r1 => q r _ _ r0 r1 ⟨N, ns, j, g', t + 1, z, rfl, hN, j0, h0⟩ S2, fun r d r0 r1 d0 => q r _ _ r0 r1 ⟨N, ns, j, d, t + 1, z, rfl, hN, j0, d0⟩ S2.set⟩
    -- the rest, from a bag on
    refine ⟨fun σ H2 => ∃ (y3 y4 : Option V) (j g' : Int), σ = [some (.ref b), some (.int n), some (.int t), y3, y4] ∧ 0 ≤ j ∧ 0 ≤ g' ∧ Sep G ((b, .lst [.ref N, .int j, .int g', .int (t + 1), .int z]) :: M) H2, ?_, fun σ H2 h => ?_⟩
    · have go : ∃ (y3 y4 : Option V) (j g' : Int), ([some (.ref b), some (.int n), some (.int t), none, none] : List (Option V)) = [some (.ref b), some (.int n), some (.int t), y3, y4] ∧ 0 ≤ j ∧ 0 ≤ g' ∧ Sep G ((b, .lst [.ref N, .int j, .int g', .int (t + 1), .int z]) :: M) _ := ⟨_, _, i, g, rfl, i0, g0, S1⟩
      refine ⟨_, _, .inl (SqL.of S1.hd), rfl, fun e => ⟨_, _, .inl (SqL.of S1.hd), rfl, _, _, .inl (SqL.of S1.hd), rfl, _, .inl (SqL.of (S1.st hN)), fun e => ?_, fun e => go⟩, fun e => ⟨ff, fun _ => go⟩⟩
      have hi : i < (ns.map V.int).length := of_decide_eq_true e
      obtain ⟨v, hv, hm⟩ := atI_in i0 hi
      obtain ⟨c, _, rfl⟩ := List.mem_map.mp hm
      refine ⟨_, _, .inl (SqL.of S1.hd), rfl, _, _, .inl (SqL.of S1.hd), rfl, _, _, .inl (SqL.of (S1.st hN)), hv, ?_⟩
      refine ⟨_, _, .inl (SqL.of S1.hd), rfl, b, _, _, 1, rfl, rfl, S1.hd, rfl, ?_⟩
      have S2 := S1.set (o' := .lst [.ref N, .int (i + 1), .int g, .int (t + 1), .int z])
      refine ⟨⟨by decide, by decide, by decide⟩, fun p _ => ⟨fun e => ?_, fun e => ?_⟩⟩
      · refine ⟨.inl ⟨by decide, by decide⟩, _, _, rfl, fun m _ _ => ⟨n0, fun r _ r0 r1 => ?_⟩⟩
        exact q r _ _ r0 r1 ⟨N, ns, i + 1, g, t + 1, z, rfl, hN, by omega, g0⟩ S2
      · refine ⟨b, _, _, 2, rfl, rfl, S2.hd, rfl, ?_⟩
        exact ⟨_, _, i + 1, c.natAbs, rfl, by omega, by omega, S2.set⟩
    · obtain ⟨y3, y4, j, g', rfl, j0, h0, S2⟩ := h
      obtain ⟨f1, f2⟩ := fin j g' H2 j0 h0 S2
      refine ⟨_, _, .inl (SqL.of S2.hd), rfl, fun e => ?_, fun e => ?_⟩
      · refine ⟨_, _, .inl (SqL.of S2.hd), rfl, _, _, rfl, fun m _ _ => ⟨n0, fun r _ r0 r1 => ?_⟩⟩
        exact f1 (of_decide_eq_true e) r r0 r1
      · refine ⟨_, _, .inl (SqL.of S2.hd), rfl, n0, fun r _ r0 r1 => ?_⟩
        refine ⟨_, _, .inl (SqL.of S2.hd), rfl, ⟨n0, n1⟩, fun d _ d0 => ⟨b, _, _, 2, rfl, rfl, S2.hd, rfl, ?_⟩⟩
        exact f2 r d r0 r1 (d0 h0)

def spBag (K : PySem.W.Frag) : Sp := fun vs H Q _ => ∃ (G : Hp) (M : List (Addr × HO)) (a : Addr) (ns : List Int), vs = [.ref a] ∧ Sep G M H ∧ SqL K G a (ns.map V.int) ∧ ns.length ≤ 63 ∧
  ∀ (b : Addr) (o : HO) (G' H' : Hp), Same G G' → Bag G' o → Sep G' ((b, o) :: M) H' → Q (.ref b) H'
theorem ok_bag (T : Top K mg w) {k : Nat} : FnOk P w K mg base CX0 (k + 1) T.a_bag T.d_bag ["_law_script"] (spBag K) := by
  refine T.F_bag.ok sc_bag (fun vs H Q E h => ?_) (fun cdv A outer s H vs Q E hr h => ?_)
  · obtain ⟨G, M, a, ns, rfl, _⟩ := h
    rfl
  · obtain ⟨G, M, a, ns, rfl, S, hA, hl, q⟩ := h
    refine ⟨_, (pss_cons (ps_setLc (i := 2) (own := [("_law_cell", 1)]) (by rfl) sc_bag.nd rfl rfl (sw_true rfl rfl rfl (by decide +kernel)) (pi_listK K (xv 0)) (blkOk_by (N := ["_law_script", "_law_cell", "_law_numbers", "_law_seed", "_law_at"]) (sc := defScope s_bag) (by decide +kernel)) (fun _ _ _ _ _ => (pg_name (i := 1) sc_bag.nd rfl (.inl rfl))) (fun _ _ _ _ _ => pts_nil) (fun _ _ _ _ _ => (pe_callTy cr_int (by rfl) T.m_int (by decide +kernel) (pa_cons (xv 1) pa_nil))))
      (pss_cons (ps_set (i := 3) sc_bag.nd rfl (.inl rfl) (pe_callB (cr_lenK K) (by rfl) T.m_len (by decide +kernel) (pa_cons (xv 2) pa_nil)))
      (pss_cons (ps_for PassesOwn.never rfl (pi_enum (by rfl) T.m_enumerate (pa_cons (pe_slice (sl_listK K) (xv 2) po_none (po_some pe_int)) pa_nil)) (pg_tupK K 2 (pgs_cons (pg_name (i := 4) sc_bag.nd rfl (.inl rfl)) (pgs_cons (pg_name (i := 1) sc_bag.nd rfl (.inl rfl)) pgs_nil)))
      (pss_one (ps_set (i := 3) sc_bag.nd rfl (.inl rfl) (pe_op op_modY (pe_callTy cr_int (by rfl) T.m_int (by decide +kernel) (pa_cons (pe_op op_addY (pe_op op_addY (pe_op op_mulY (xv 3) pe_int) (pe_op op_modY (pe_callTy cr_int (by rfl) T.m_int (by decide +kernel) (pa_cons (pe_callB cr_abs (by rfl) T.m_abs (by decide +kernel) (pa_cons (xv 1) pa_nil)) pa_nil)) pe_int)) (pe_op op_mulY (pe_op op_addY (xv 4) pe_int) (pe_cmpR op_ltY (xv 1) pe_int (nomark _)))) pa_nil)) pe_int))))
      (pss_one (ps_ret (pe_lst (pa_cons (xv 2) (pa_cons pe_int (pa_cons pe_int (pa_cons pe_int (pa_cons (xv 3) pa_nil))))))))))), ?_⟩
    refine ⟨a, rfl, ⟨_, S.l hA⟩, fun L nL => lc_pre (xs := ns.map V.int) (fun pre H' => Sep G ((L, .lst pre) :: M) H') (S.new nL) (fun pre H' p => p.l hA) (fun _ => rfl) (fun pre x post H' e p => ?_) (fun H' S1 => ?_)⟩
    · obtain ⟨c, _, rfl⟩ := List.mem_map.mp (show x ∈ ns.map V.int by rw [e]; simp)
      have hz : pre.length ≤ 63 := by
        have z := congrArg List.length e
        rw [List.length_map, List.length_append] at z
        omega
      exact ⟨_, p.hd, smallL (by omega), p.set⟩
    · -- the seed
      have S2 := S1.frz
      have hN : upd G L (.lst (ns.map V.int)) L = some (.lst (ns.map V.int)) := upd_same
      refine ⟨_, .inl (SqL.of (S2.st hN)), ?_⟩
      refine ⟨63, rfl, L, _, rfl, SqL.of (S2.st hN), fun c nc => ?_⟩
      have S3 := S2.newG (o := .lst (cutV (ns.map V.int) none (some 63))) nc
      have s3 := S2.grow (o := .lst (cutV (ns.map V.int) none (some 63))) nc
      refine ⟨c, _, rfl, SqL.of (S3.st upd_same), for_enum (xs := cutV (ns.map V.int) none (some 63)) (fun pre σ H' => ∃ (y1 y4 : Option V) (z : Int) (G' : Hp), σ = [some (.ref a), y1, some (.ref L), some (.int z), y4] ∧
        Same (upd (upd G L (.lst (ns.map V.int))) c (.lst (cutV (ns.map V.int) none (some 63)))) G' ∧ Sep G' M H') ⟨_, _, _, _, rfl, Same.refl _, S3⟩ (fun pre σ H' h => ?_) (fun pre x post σ H' W e h nW => ?_) (fun σ H' h => ?_)⟩
      · obtain ⟨_, _, _, G', _, s4, S4⟩ := h
        exact SqL.of (S4.st (s4 _ _ upd_same))
      · obtain ⟨y1, y4, z, G', rfl, s4, S4⟩ := h
        have hx : x ∈ ns.map V.int := by
          have hm : x ∈ cutV (ns.map V.int) none (some 63) := by rw [e]; simp
          exact List.mem_of_mem_drop (List.mem_of_mem_take hm)
        obtain ⟨v, _, rfl⟩ := List.mem_map.mp hx
        have S5 := S4.newG (o := .tup [.int (pre.length : Nat), .int v]) nW
        refine ⟨.inr ⟨by decide, by decide⟩, by decide, fun r _ r0 r1 => ⟨by decide, fun u _ u0 u1 => ?_⟩⟩
        exact ⟨_, _, _, _, rfl, s4.trans (S4.grow nW), S5⟩
      · obtain ⟨y1, y4, z, G', rfl, s4, S4⟩ := h
        refine ⟨sz, fun b nb => ?_⟩
        exact q b _ G' _ ((S1.frzS).trans (s3.trans s4)) ⟨L, ns, 0, 0, 0, z, rfl, s4 _ _ (s3 _ _ hN), by decide, by decide⟩ (S4.new nb)

def spChoice (K : PySem.W.Frag) : Sp := fun vs H Q _ => ∃ (G : Hp) (M : List (Addr × HO)) (b : Addr) (o : HO) (l : Addr) (xs : List V), vs = [.ref b, .ref l] ∧ Sep G ((b, o) :: M) H ∧ Bag G o ∧ SqL K G l xs ∧ 0 < xs.length ∧ xs.length < 100000 ∧
  ∀ (v : V) (o' : HO) (H' : Hp), v ∈ xs → Bag G o' → Sep G ((b, o') :: M) H' → Q v H'
theorem ok_choice (T : Top K mg w) {k : Nat} (G_pick : FnOk P w K mg base CX0 k T.a_pick T.d_pick ["_law_bag_here", "_law_many"] spPick) : FnOk P w K mg base CX0 (k + 1) T.a_choice T.d_choice ["_law_bag_here", "_law_things"] (spChoice K) := by
  refine T.F_choice.ok sc_choice (fun vs H Q E h => ?_) (fun cdv A outer s H vs Q E hr h => ?_)
  · obtain ⟨G, M, b, o, l, xs, rfl, _⟩ := h
    rfl
  · obtain ⟨G, M, b, o, l, xs, rfl, S, B, hl, x0, x1, q⟩ := h
    refine ⟨_, (pss_one (ps_ret (pe_ix (ix_k K) (xv 1) (pe_call G_pick (hr.mono (by omega)) (by rfl) T.g_pick T.F_pick.kp T.b_pick .nil pass0 (pa_cons (xv 0) (pa_cons (pe_callB (cr_lenK K) (by rfl) T.m_len (by decide +kernel) (pa_cons (xv 1) pa_nil)) pa_nil))) (fun _ _ => rfl)))), ?_⟩
    refine ⟨_, .inl (S.l hl), G, M, b, o, _, rfl, S, B, by omega, by omega, fun r o' H' r0 r1 B' S' => ?_⟩
    obtain ⟨v, hv, hm⟩ := atI_in r0 r1
    exact ⟨_, v, .inl (S'.l hl), hv, q v o' H' hm B' S'⟩

end
end K02
set_option Elab.async false
set_option linter.all false
set_option maxRecDepth 100000
set_option maxHeartbeats 4000000
namespace K02
open PySem PySem.Spec PyProof.Rows L2 XL
section
variable {P : Program} {w : World} {K : PySem.W.Frag} {mg : Str → Option Value} {base : Heap}
/-! ### a new name -/
def spNew : Sp := fun vs H Q _ => ∃ (G : Hp) (M : List (Addr × HO)) (b : Addr) (o : HO) (l : Addr) (zs : List Str), vs = [.ref b, .ref l] ∧ Sep G ((b, o) :: (l, .lst (zs.map V.str)) :: M) H ∧ Bag G o ∧ (∀ z ∈ zs, Lt 1 8 z) ∧ zs.length ≤ 100 ∧
  ∀ (z : Str) (o' : HO) (H' : Hp), Lt 1 8 z → z ∉ zs → z ≠ "item" → z ≠ "at" → Bag G o' → Sep G ((b, o') :: (l, .lst ((zs ++ [z]).map V.str)) :: M) H' → Q (.str z) H'
theorem letter_ix {r : Int} (h0 : 0 ≤ r) (h1 : r < 26) : ∃ c, atI LS.cps.toList r = some c ∧ c ∈ LS.cps.toList := by
  obtain ⟨k, rfl⟩ := Int.eq_ofNat_of_zero_le h0
  have z := letter_at (show k < 26 by omega)
  exact ⟨_, atI_nat z, List.mem_of_getElem? z⟩
theorem LS_len : LS.length ≤ sizeLine := by decide +kernel
theorem lt_small {a b : Nat} {z : Str} (h : Lt a b z) (hb : b ≤ 100) : z.length ≤ sizeLine := Nat.le_trans h.hi (Nat.le_trans hb (by decide))
def freshOf (p : Str) (zs : List Str) (ts : List Str) : List Str := (ts.filter fun t => !decide (p ++ t ∈ zs)).map fun t => p ++ t
theorem fresh_snoc (p : Str) (us ts : List Str) (t2 : Str) : freshOf p us (ts ++ [t2]) = freshOf p us ts ++ (if !decide (p ++ t2 ∈ us) then [p ++ t2] else []) := by
  unfold freshOf
  rw [List.filter_append, List.map_append]
  congr 1
  by_cases h : p ++ t2 ∈ us <;> simp [h]
theorem ok_new_name (T : Top K mg w) {k : Nat} (G_pick : FnOk P w K mg base CX0 k T.a_pick T.d_pick ["_law_bag_here", "_law_many"] spPick) : FnOk P w K mg base CX0 (k + 1) T.a_new_name T.d_new_name ["_law_bag_here", "_law_used"] spNew := by
  refine T.F_new_name.ok sc_new_name (fun vs H Q E h => ?_) (fun cdv A outer s H vs Q E hr h => ?_)
  · obtain ⟨G, M, b, o, l, zs, rfl, _⟩ := h
    rfl
  · obtain ⟨G, M, b, o, l, zs, rfl, S, B, hz, zl, q⟩ := h
    refine ⟨_, (pss_cons (ps_set (i := 2) sc_new_name.nd rfl (.inr rfl) pe_str)
      (pss_cons (ps_set (i := 3) sc_new_name.nd rfl (.inr rfl) (pe_join pe_str (pe_lc (own := [("_law_step", 7)]) (by rfl) sc_new_name.nd (pi_range1 (by rfl) T.m_range (pa_cons (pe_op op_addY pe_int (pe_call G_pick (hr.mono (by omega)) (by rfl) T.g_pick T.F_pick.kp T.b_pick .nil pass0 (pa_cons (xv 0) (pa_cons pe_int pa_nil)))) pa_nil)) (blkOk_by (N := ["_law_bag_here", "_law_used", "_law_letters", "_law_told", "_law_near", "_law_at", "_law_tails", "_law_step", "_law_k", "_law_tail"]) (sc := defScope s_new_name) (by decide +kernel)) (fun _ _ _ _ _ => (pg_name (i := 7) sc_new_name.nd rfl (.inl rfl))) (fun _ _ _ _ _ => pts_nil) (fun _ _ _ _ _ => (pe_ix (ix_k K) (xv 2) (pe_call G_pick (hr.mono (by omega)) (by rfl) T.g_pick T.F_pick.kp T.b_pick .nil pass0 (pa_cons (xv 0) (pa_cons pe_int pa_nil))) (fun _ _ => rfl))))))
      (xss_cut (xs_if (PW.pt (xw_and (xt_truK K (xv 1)) (pw_and1 (xt_cmp (op_eqLK K hr.u190) (pe_call G_pick (hr.mono (by omega)) (by rfl) T.g_pick T.F_pick.kp T.b_pick .nil pass0 (pa_cons (xv 0) (pa_cons pe_int pa_nil))) pe_int (nomark _)))))
      (pss_cons (ps_set (i := 4) sc_new_name.nd rfl (.inl rfl) (pe_slice sl_str (pe_ix (ix_k K) (xv 1) (pe_call G_pick (hr.mono (by omega)) (by rfl) T.g_pick T.F_pick.kp T.b_pick .nil pass0 (pa_cons (xv 0) (pa_cons (pe_callB (cr_lenK K) (by rfl) T.m_len (by decide +kernel) (pa_cons (xv 1) pa_nil)) pa_nil))) (fun _ _ => rfl)) po_none (po_some pe_int)))
      (pss_cons (ps_set (i := 5) sc_new_name.nd rfl (.inl rfl) (pe_call G_pick (hr.mono (by omega)) (by rfl) T.g_pick T.F_pick.kp T.b_pick .nil pass0 (pa_cons (xv 0) (pa_cons (pe_callB (cr_lenK K) (by rfl) T.m_len (by decide +kernel) (pa_cons (xv 4) pa_nil)) pa_nil))))
      (pss_one (ps_set (i := 3) sc_new_name.nd rfl (.inr rfl) (pe_op op_addY (pe_op op_addY (pe_slice sl_str (xv 4) po_none (po_some (xv 5))) (pe_ix (ix_k K) (xv 2) (pe_call G_pick (hr.mono (by omega)) (by rfl) T.g_pick T.F_pick.kp T.b_pick .nil pass0 (pa_cons (xv 0) (pa_cons pe_int pa_nil))) (fun _ _ => rfl))) (pe_slice sl_str (xv 4) (po_some (pe_op op_addY (xv 5) pe_int)) po_none))))))
      pss_nil)
      (xss_cut (xs_if (xt_cmp (in_seqK K) (xv 3) (pe_op op_addY (xv 1) (pe_lst (pa_cons pe_str (pa_cons pe_str pa_nil)))) (by rfl))
      (pss_cons (ps_setLc (i := 6) (own := [("_law_k", 8)]) (by rfl) sc_new_name.nd rfl rfl (sw_true rfl rfl rfl (by decide +kernel)) (pi_range1 (by rfl) T.m_range (pa_cons pe_int pa_nil)) (blkOk_by (N := ["_law_bag_here", "_law_used", "_law_letters", "_law_told", "_law_near", "_law_at", "_law_tails", "_law_step", "_law_k", "_law_tail"]) (sc := defScope s_new_name) (by decide +kernel)) (fun _ _ _ _ _ => (pg_name (i := 8) sc_new_name.nd rfl (.inl rfl))) (fun _ _ _ _ _ => pts_nil) (fun _ _ _ _ _ => (pe_op op_addY (pe_ix (ix_k K) (xv 2) (pe_op op_divY (xv 8) pe_int) (fun _ _ => rfl)) (pe_ix (ix_k K) (xv 2) (pe_op op_modY (pe_callTy cr_int (by rfl) T.m_int (by decide +kernel) (pa_cons (xv 8) pa_nil)) pe_int) (fun _ _ => rfl)))))
      (pss_one (ps_set (i := 3) sc_new_name.nd rfl (.inr rfl) (pe_ix (ix_k K) (pe_lc (own := [("_law_tail", 9)]) (by rfl) sc_new_name.nd (pi_listK K (xv 6)) (blkOk_by (N := ["_law_bag_here", "_law_used", "_law_letters", "_law_told", "_law_near", "_law_at", "_law_tails", "_law_step", "_law_k", "_law_tail"]) (sc := defScope s_new_name) (by decide +kernel)) (fun _ _ _ _ _ => (pg_name (i := 9) sc_new_name.nd rfl (.inl rfl))) (fun _ _ _ _ _ => (pts_one (xt_cmp (notin_seqK K) (pe_op op_addY (pe_slice sl_str (xv 3) po_none (po_some pe_int)) (xv 9)) (pe_op op_addY (xv 1) (pe_lst (pa_cons pe_str pa_nil))) (by rfl)))) (fun _ _ _ _ _ => (pe_op op_addY (pe_slice sl_str (xv 3) po_none (po_some pe_int)) (xv 9)))) pe_int (fun _ _ => rfl)))))
      pss_nil)
      (pss_cons (ps_expr (pe_bmK K PySem.F.plainAttrs_list PySem.F.slot_list_append PySem.F.type_list_append mt_append (xv 1) (pa_cons (xv 3) pa_nil)))
      (pss_one (ps_ret (xv 3)))))))), ?_⟩
    -- letters in a row
    refine ⟨⟨_, rfl⟩, G, _, b, o, 6, rfl, S, B, by decide, by decide, fun r1 o1 H1 r10 r11 B1 S1 => ⟨_, rfl, by omega, by omega, fun D nD => lc_range (lo := 0) (n := (1 + r1).toNat) (fun i H' => ∃ (o' : HO) (ys : List Str), Bag G o' ∧ Sep G ((D, .lst (ys.map V.str)) :: (b, o') :: (l, .lst (zs.map V.str)) :: M) H' ∧ ys.length = i ∧ ∀ y ∈ ys, Lt 1 1 y)
      ⟨o1, [], B1, S1.new nD, rfl, fun y hy => absurd hy (by simp)⟩ (fun i H' hi p => ?_) (fun H' p => ?_)⟩⟩
    · obtain ⟨o', ys, B', S', yl, hy⟩ := p
      refine ⟨rfl, G, _, b, o', 26, rfl, S'.sw, B', by decide, by decide, fun r2 o2 H2 r20 r21 B2 S2 => ?_⟩
      obtain ⟨c, hc, hm⟩ := letter_ix r20 r21
      refine ⟨c, LS_len, hc, ys.map V.str, S2.sw.hd, by rw [List.length_map]; exact smallL (by omega), o2, ys ++ [⟨#[c]⟩], B2, ?_, by rw [List.length_append, yl]; rfl, fun y hy' => ?_⟩
      · rw [List.map_append]
        exact S2.sw.set
      · rcases List.mem_append.mp hy' with z | z
        · exact hy y z
        · rw [List.mem_singleton.mp z]
          exact Lt.one hm
    obtain ⟨o2, ys, B2, S2, yl, hy⟩ := p
    refine ⟨_, D, ys, rfl, rfl, .inl (SqL.of S2.hd), ?_, ?_⟩
    · rw [sum_ones hy, show Str.length ("" : Str) = 0 from rfl, Nat.mul_zero]
      omega
    have S3 := S2.drop
    have lt1 : Lt 1 6 (Txt.join "" ys) := (Lt.join hy).wide (by omega) (by omega)
    generalize Txt.join "" ys = t1 at *
    -- near another one
    refine ⟨fun σ H' => ∃ (y4 y5 : Option V) (o' : HO) (t : Str), σ = [some (.ref b), some (.ref l), some (.str LS), some (.str t), y4, y5, none, none, none, none] ∧ Lt 1 6 t ∧ Bag G o' ∧ Sep G ((b, o') :: (l, .lst (zs.map V.str)) :: M) H', ?_, fun σ H4 h => ?_⟩
    · have stay : ∀ (o' : HO) (H' : Hp), Bag G o' → Sep G ((b, o') :: (l, .lst (zs.map V.str)) :: M) H' → ∃ (y4 y5 : Option V) (o' : HO) (t : Str), ([some (.ref b), some (.ref l), some (.str LS), some (.str t1), none, none, none, none, none, none] : List (Option V)) = [some (.ref b), some (.ref l), some (.str LS), some (.str t), y4, y5, none, none, none, none] ∧ Lt 1 6 t ∧ Bag G o' ∧ Sep G ((b, o') :: (l, .lst (zs.map V.str)) :: M) H' :=
        fun o' H' B' S' => ⟨_, _, o', t1, rfl, lt1, B', S'⟩
      refine ⟨_, .inl ⟨_, SqL.of S3.sw.hd, rfl⟩, fun ne => ⟨G, _, b, o2, 3, rfl, S3, B2, by decide, by decide, fun r4 o4 H4 _ _ B4 S4 => ⟨fun _ => ?_, fun _ => stay o4 H4 B4 S4⟩⟩, fun _ => ⟨ff, fun _ => stay o2 _ B2 S3⟩⟩
      have z0 : 0 < zs.length := by
        cases zs with
        | nil => cases ne
        | cons _ _ => simp
      refine ⟨_, .inl (SqL.of S4.sw.hd), G, _, b, o4, _, rfl, S4, B4, by rw [List.length_map]; omega, by rw [List.length_map]; omega, fun r5 o5 H5 r50 r51 B5 S5 => ?_⟩
      obtain ⟨v5, hv5, hm5⟩ := atI_in r50 r51
      obtain ⟨z5, hz5, rfl⟩ := List.mem_map.mp hm5
      have l5 := hz z5 hz5
      refine ⟨_, _, .inl (SqL.of S5.sw.hd), hv5, _, rfl, z5, rfl, lt_small l5 (by decide), ?_⟩
      have ln : Lt 1 6 (cutS z5 none (some (6 : Int))) := (l5.to 6).wide (by decide) (by decide)
      generalize cutS z5 none (some (6 : Int)) = nr at *
      have nlo := ln.lo
      have nhi := ln.hi
      refine ⟨lt_small ln (by decide), G, _, b, o5, _, rfl, S5, B5, by omega, by omega, fun r6 o6 H6 r60 r61 B6 S6 => ?_⟩
      obtain ⟨k6, rfl⟩ := Int.eq_ofNat_of_zero_le r60
      refine ⟨_, rfl, nr, rfl, lt_small ln (by decide), G, _, b, o6, 26, rfl, S6, B6, by decide, by decide, fun r7 o7 H7 r70 r71 B7 S7 => ?_⟩
      obtain ⟨c, hc, hm⟩ := letter_ix r70 r71
      have a1 : (cutS nr none (some (k6 : Int))).length = k6 := by rw [cut_to_len]; omega
      have a2 : (cutS nr (some ((k6 + 1 : Nat) : Int)) none).length = nr.length - (k6 + 1) := cut_from_len nr (k6 + 1) (by omega)
      refine ⟨c, LS_len, hc, ?_, fun t2 et2 => ⟨_, rfl, nr, rfl, lt_small ln (by decide), ?_, fun t3 et3 => ⟨_, _, o7, t3, rfl, ?_, B7, S7⟩⟩⟩
      · rw [a1]
        exact small (by show k6 + 1 ≤ 100000; omega)
      · rw [et2, app_len, a1]
        show k6 + 1 + (cutS nr (some ((k6 + 1 : Nat) : Int)) none).length ≤ sizeLine
        rw [a2]
        exact small (by omega)
      · rw [et3, et2]
        have p1 : Lt k6 k6 (cutS nr none (some (k6 : Int))) := ⟨by omega, by omega, fun d hd => ln.ch d (cut_mem hd)⟩
        have p2 : Lt (nr.length - (k6 + 1)) (nr.length - (k6 + 1)) (cutS nr (some ((k6 + 1 : Nat) : Int)) none) := ⟨by omega, by omega, fun d hd => ln.ch d (cut_mem hd)⟩
        exact ((p1.app (Lt.one hm)).app p2).wide (by omega) (by omega)
    obtain ⟨y4, y5, o4, t, rfl, lt, B4, S4⟩ := h
    -- one that is used
    refine ⟨fun σ H' => ∃ (y6 : Option V) (z : Str), σ = [some (.ref b), some (.ref l), some (.str LS), some (.str z), y4, y5, y6, none, none, none] ∧ Lt 1 8 z ∧ z ∉ zs ∧ z ≠ "item" ∧ z ≠ "at" ∧ Sep G ((b, o4) :: (l, .lst (zs.map V.str)) :: M) H', ?_, fun σ H5 h => ?_⟩
    · refine ⟨sz, fun A1 nA1 => ?_⟩
      have S5 := S4.new (o := .lst [.str "item", .str "at"]) nA1
      refine ⟨l, A1, zs.map V.str, [.str "item", .str "at"], rfl, rfl, S5.at (show (l, HO.lst (zs.map V.str)) ∈ _ by simp), S5.hd, small (by rw [List.length_map]; simp; omega), fun A2 nA2 => ?_⟩
      have e6 : zs.map V.str ++ [V.str "item", .str "at"] = (zs ++ (["item", "at"] : List Str)).map V.str := by rw [List.map_append]; rfl
      rw [e6]
      have S6 := S5.new (o := .lst ((zs ++ (["item", "at"] : List Str)).map V.str)) nA2
      have S7 := S6.drop.drop
      refine ⟨A2, _, rfl, .inl (SqL.of S6.hd), rfl, strs_flat _, fun e1 => ?_, fun e1 => ?_⟩
      · -- its tails
        refine ⟨676, rfl, by decide, by decide, fun D nD => lc_range (lo := 0) (n := (676 : Int).toNat) (fun i H' => Sep G ((D, .lst (((List.range i).map tail2).map V.str)) :: (b, o4) :: (l, .lst (zs.map V.str)) :: M) H') (S7.new nD) (fun i H' hi p => ?_) (fun H8 S8 => ?_)⟩
        · have hi : i < 676 := hi
          rw [Int.zero_add]
          refine ⟨rfl, ⟨by decide, by decide⟩, fun d ed _ => ⟨letter (i / 26), LS_len, ?_, by decide, fun r er r0 r1 => ⟨letter (i % 26), LS_len, ?_, small (by show 1 + 1 ≤ 100000; decide), fun t2 et2 => ⟨_, p.hd, ?_, ?_⟩⟩⟩⟩
          · have z : d = ((i / 26 : Nat) : Int) := by omega
            rw [z]
            exact atI_nat (letter_at (by omega))
          · have z : r = ((i % 26 : Nat) : Int) := by omega
            rw [z]
            exact atI_nat (letter_at (by omega))
          · rw [List.length_map, List.length_map, List.length_range]
            exact smallL (by omega)
          · rw [List.range_succ, List.map_append, List.map_append, et2]
            exact p.set
        have S8 : Sep G ((D, .lst (((List.range 676).map tail2).map V.str)) :: (b, o4) :: (l, .lst (zs.map V.str)) :: M) H8 := S8
        have ltp : Lt 1 6 (cutS t none (some (6 : Int))) := (lt.to 6).wide (by decide) (by decide)
        generalize ep : cutS t none (some (6 : Int)) = p at *
        have tl : ∀ t2 ∈ (List.range 676).map tail2, Lt 2 2 t2 := fun t2 h => by
          obtain ⟨k2, hk2, rfl⟩ := List.mem_map.mp h
          exact tail2_lt (List.mem_range.mp hk2)
        obtain ⟨ts, ets⟩ : ∃ ts, ts = (List.range 676).map tail2 := ⟨_, rfl⟩
        rw [← ets] at tl S8
        have tsl : ts.length = 676 := by rw [ets]; simp
        refine ⟨D, rfl, ⟨_, SqL.of S8.hd⟩, fun F nF => lc_list (xs := ts.map V.str) (fun i H' => Sep G ((F, .lst ((freshOf p (zs ++ (["item"] : List Str)) (ts.take i)).map V.str)) :: (D, .lst (ts.map V.str)) :: (b, o4) :: (l, .lst (zs.map V.str)) :: M) H')
          (S8.new nF) (fun i H' _ p' => SqL.of p'.sw.hd) (fun i x H' hx p' => ?_) (fun H9 S9 => ?_)⟩
        · rw [List.getElem?_map] at hx
          obtain ⟨t2, ht2, rfl⟩ := Option.map_eq_some_iff.mp hx
          have lt2 := tl t2 (List.mem_of_getElem? ht2)
          have il := (List.getElem?_eq_some_iff.mp ht2).1
          have ltb := ltp.app lt2
          have hb := ltb.hi
          rw [app_len] at hb
          have flen : (freshOf p (zs ++ (["item"] : List Str)) (ts.take i)).length ≤ 676 := by
            unfold freshOf
            rw [List.length_map]
            refine Nat.le_trans (List.length_filter_le _ _) ?_
            rw [List.length_take]
            omega
          have fstep : freshOf p (zs ++ (["item"] : List Str)) (ts.take (i + 1)) = freshOf p (zs ++ (["item"] : List Str)) (ts.take i) ++ (if !decide (p ++ t2 ∈ zs ++ (["item"] : List Str)) then [p ++ t2] else []) := by
            rw [XL.take_snoc ht2]
            exact fresh_snoc _ _ _ _
          rw [fstep]
          refine ⟨rfl, _, rfl, t, rfl, lt_small lt (by decide), ?_⟩
          rw [ep]
          refine ⟨small (by omega), fun u1 eu1 => ⟨sz, fun A3 nA3 => ?_⟩⟩
          have Sa := p'.new (o := .lst [.str "item"]) nA3
          refine ⟨l, A3, zs.map V.str, [.str "item"], rfl, rfl, Sa.at (show (l, HO.lst (zs.map V.str)) ∈ _ by simp), Sa.hd, small (by rw [List.length_map]; simp; omega), fun A4 nA4 => ?_⟩
          have e7 : zs.map V.str ++ [V.str "item"] = (zs ++ (["item"] : List Str)).map V.str := by rw [List.map_append]; rfl
          rw [e7]
          have Sb := Sa.new (o := .lst ((zs ++ (["item"] : List Str)).map V.str)) nA4
          refine ⟨A4, _, rfl, .inl (SqL.of Sb.hd), rfl, strs_flat _, ?_⟩
          have e8 : (if true = true then !inV (V.str u1) ((zs ++ (["item"] : List Str)).map V.str) else inV (V.str u1) ((zs ++ (["item"] : List Str)).map V.str)) = !decide (p ++ t2 ∈ zs ++ (["item"] : List Str)) := by rw [if_pos rfl, inV_str, eu1]
          rw [e8]
          have Sc := Sb.drop.drop
          refine tst (fun e9 => ?_) (fun e9 => ?_)
          · rw [if_pos e9]
            refine ⟨_, rfl, t, rfl, lt_small lt (by decide), ?_⟩
            rw [ep]
            refine ⟨small (by omega), fun u2 eu2 => ⟨_, Sc.hd, by rw [List.length_map]; exact smallL (by omega), ?_⟩⟩
            rw [List.map_append, eu2]
            exact Sc.set
          · rw [if_neg (by rw [e9]; exact Bool.false_ne_true), List.append_nil]
            exact Sc
        rw [List.length_map, List.take_length] at S9
        obtain ⟨k0, hk0, no⟩ := unused p (zs ++ (["item"] : List Str)) (by rw [List.length_append]; simp; omega)
        have mem : p ++ tail2 k0 ∈ freshOf p (zs ++ (["item"] : List Str)) ts := by
          unfold freshOf
          refine List.mem_map.mpr ⟨tail2 k0, List.mem_filter.mpr ⟨?_, by simpa using no⟩, rfl⟩
          rw [ets]
          exact List.mem_map.mpr ⟨k0, List.mem_range.mpr hk0, rfl⟩
        cases ef : freshOf p (zs ++ (["item"] : List Str)) ts with
        | nil => rw [ef] at mem; cases mem
        | cons z0 zr =>
          rw [ef] at S9
          have hz0 : z0 ∈ freshOf p (zs ++ (["item"] : List Str)) ts := by rw [ef]; exact List.mem_cons_self
          unfold freshOf at hz0
          obtain ⟨t2, ht2, rfl⟩ := List.mem_map.mp hz0
          obtain ⟨h1, h2⟩ := List.mem_filter.mp ht2
          have no2 : p ++ t2 ∉ zs ++ (["item"] : List Str) := by simpa using h2
          have l2 := ltp.app (tl t2 h1)
          refine ⟨_, .str (p ++ t2), .inl (SqL.of S9.hd), (show atI _ ((0 : Nat) : Int) = some _ from atI_nat rfl), _, p ++ t2, rfl, l2.wide (by decide) (by decide), fun h => no2 (List.mem_append_left _ h), fun h => no2 (List.mem_append_right _ (by rw [h]; simp)), fun h => ?_, S9.drop.drop⟩
          have l3 := l2.lo
          rw [h] at l3
          exact absurd l3 (by decide +kernel)
      · have e2 : inV (.str t) ((zs ++ (["item", "at"] : List Str)).map V.str) = false := e1
        rw [inV_str] at e2
        have no := of_decide_eq_false e2
        exact ⟨_, t, rfl, lt.wide (by decide) (by decide), fun h => no (List.mem_append_left _ h), fun h => no (List.mem_append_right _ (by rw [h]; simp)), fun h => no (List.mem_append_right _ (by rw [h]; simp)), S7⟩
    obtain ⟨y6, z, rfl, ltz, f1, f2, f3, S5⟩ := h
    refine ⟨.inl ⟨rfl, _, SqL.of S5.sw.hd⟩, l, _, _, rfl, rfl, S5.sw.hd, smallL (by rw [List.length_map]; omega), ?_⟩
    refine q z o4 _ ltz f1 f2 f3 B4 ?_
    rw [List.map_append]
    exact (S5.sw.set).sw

end
end K02
set_option Elab.async false
set_option linter.all false
set_option maxRecDepth 100000
set_option maxHeartbeats 4000000
namespace K02
open PySem PySem.Spec PyProof.Rows L2 XL
/-! ### data with empty dicts -/
abbrev Dp := @XL.DpE
abbrev DpAll := @XL.DpEAll
theorem dp_same {K : PySem.W.Frag} {G G' : Hp} (e : Same G G') {v : V} {d : PyData} (h : Dp K G v d) : Dp K G' v d := XL.dpE_same e h
theorem dpa_same {K : PySem.W.Frag} {G G' : Hp} (e : Same G G') {vs : List V} {ds : List PyData} (h : DpAll K G vs ds) : DpAll K G' vs ds := XL.dpEa_same e h
theorem emp_ty {K : PySem.W.Frag} {H : Hp} {a : Addr} (h : H a = some (.dK [])) : TyX K H (.ref a) (.type "dict") := .base (.dK h)

/-! ### data of a bounded size -/
theorem showAll : ∀ {xs : List PyData}, (∀ x ∈ xs, x.showable = true) → PyData.showableAll xs = true
  | [], _ => by simp only [PyData.showableAll]
  | x :: xs, h => by
    simp only [PyData.showableAll, h x (by simp), showAll (xs := xs) fun y hy => h y (List.mem_cons_of_mem _ hy), Bool.and_self]
theorem layAll : ∀ {xs : List PyData}, (∀ x ∈ xs, x.canLay0 = true) → PyData.canLayAll0 xs = true
  | [], _ => by simp only [PyData.canLayAll0]
  | x :: xs, h => by
    simp only [PyData.canLayAll0, h x (by simp), layAll (xs := xs) fun y hy => h y (List.mem_cons_of_mem _ hy), Bool.and_self]
theorem depthAll_le {n : Nat} : ∀ {xs : List PyData}, (∀ x ∈ xs, x.depth ≤ n) → PyData.depthAll xs ≤ n
  | [], _ => by simp only [PyData.depthAll]; omega
  | x :: xs, h => by
    have h1 := h x (by simp)
    have h2 := depthAll_le (xs := xs) fun y hy => h y (List.mem_cons_of_mem _ hy)
    simp only [PyData.depthAll]
    omega
theorem shortAll {n : Nat} : ∀ {xs : List PyData}, (∀ x ∈ xs, x.leavesShort n = true) → PyData.leavesShortAll n xs = true
  | [], _ => by simp only [PyData.leavesShortAll]
  | x :: xs, h => by
    simp only [PyData.leavesShortAll, h x (by simp), shortAll (xs := xs) fun y hy => h y (List.mem_cons_of_mem _ hy), Bool.and_self]
theorem weightAll_le {n : Nat} : ∀ {xs : List PyData}, (∀ x ∈ xs, x.weight ≤ n) → PyData.weightAll xs ≤ xs.length * (n + 1)
  | [], _ => by simp only [PyData.weightAll]; omega
  | x :: xs, h => by
    have h1 := h x (by simp)
    have h2 := weightAll_le (xs := xs) fun y hy => h y (List.mem_cons_of_mem _ hy)
    simp only [PyData.weightAll, List.length_cons, Nat.add_mul]
    omega
structure Fit (w dp : Nat) (d : PyData) : Prop where
  cl : d.canLay0 = true
  sh : d.showable = true
  ls : d.leavesShort 8 = true
  dp : d.depth ≤ dp
  wt : d.weight ≤ w
theorem Fit.mono {w dp w' dp' : Nat} {d : PyData} (h : Fit w dp d) (h1 : w ≤ w') (h2 : dp ≤ dp') : Fit w' dp' d := ⟨h.cl, h.sh, h.ls, Nat.le_trans h.dp h2, Nat.le_trans h.wt h1⟩
theorem Fit.shaped {w dp : Nat} {d : PyData} (h : Fit w dp d) (h2 : dp ≤ 64) : SeqAt.shaped d = true := by
  unfold SeqAt.shaped
  rw [h.cl, decide_eq_true (Nat.le_trans h.dp h2)]
  rfl
theorem Fit.self {w dp : Nat} {d : PyData} (h : Fit w dp d) : PyData.eqv d d = true := SeqAt.eqv_refl d h.cl
structure Shw (d : PyData) : Prop where
  sh : d.showable = true
  nd : d.hasDict = false
  dp : d.depth ≤ 64
  ln : d.shown.length ≤ sizeLine
theorem Fit.shw {w dp : Nat} {d : PyData} (h : Fit w dp d) (h1 : w ≤ 1048576) (h2 : dp ≤ 64) : Shw d :=
  ⟨h.sh, PyData.hasDict_of_canLay d h.cl, Nat.le_trans h.dp h2, PyData.shown_fits (B := 8) (by decide) (by decide) h.ls (Nat.le_trans h.wt (Nat.le_trans h1 (by decide)))⟩
theorem Fit.tup {w dp : Nat} {ds : List PyData} (hw : PyData.weightAll ds ≤ w) (h : ∀ d ∈ ds, ∃ w', Fit w' dp d) : Fit w (dp + 1) (.tuple ds) := by
  have dl := depthAll_le (n := dp) fun d hd => (h d hd).choose_spec.dp
  refine ⟨?_, ?_, ?_, ?_, ?_⟩
  · simp only [PyData.canLay0]; exact layAll fun d hd => (h d hd).choose_spec.cl
  · simp only [PyData.showable]; exact showAll fun d hd => (h d hd).choose_spec.sh
  · simp only [PyData.leavesShort]; exact shortAll fun d hd => (h d hd).choose_spec.ls
  · simp only [PyData.depth]; omega
  · simp only [PyData.weight]; exact hw
theorem Fit.lst {w dp : Nat} {ds : List PyData} (hw : PyData.weightAll ds ≤ w) (h : ∀ d ∈ ds, ∃ w', Fit w' dp d) : Fit w (dp + 1) (.list ds) := by
  have dl := depthAll_le (n := dp) fun d hd => (h d hd).choose_spec.dp
  refine ⟨?_, ?_, ?_, ?_, ?_⟩
  · simp only [PyData.canLay0]; exact layAll fun d hd => (h d hd).choose_spec.cl
  · simp only [PyData.showable]; exact showAll fun d hd => (h d hd).choose_spec.sh
  · simp only [PyData.leavesShort]; exact shortAll fun d hd => (h d hd).choose_spec.ls
  · simp only [PyData.depth]; omega
  · simp only [PyData.weight]; exact hw
theorem Fit.tups {w dp : Nat} {ds : List PyData} (h : ∀ d ∈ ds, Fit w dp d) : Fit (ds.length * (w + 1)) (dp + 1) (.tuple ds) := .tup (weightAll_le fun d hd => (h d hd).wt) fun d hd => ⟨w, h d hd⟩
theorem Fit.lsts {w dp : Nat} {ds : List PyData} (h : ∀ d ∈ ds, Fit w dp d) : Fit (ds.length * (w + 1)) (dp + 1) (.list ds) := .lst (weightAll_le fun d hd => (h d hd).wt) fun d hd => ⟨w, h d hd⟩
theorem Fit.str {z : Str} {w : Nat} (h : ∀ c ∈ z.cps.toList, c < 1114112) (l : z.length ≤ w) : Fit w 0 (.str z) := by
  refine ⟨?_, by simp only [PyData.showable], ?_, by simp only [PyData.depth]; omega, ?_⟩
  · simp only [PyData.canLay0]
    unfold PyData.strOk
    rw [← Array.all_toList, List.all_eq_true]
    exact fun c hc => decide_eq_true (h c hc)
  · simp only [PyData.leavesShort]
    rw [List.all_eq_true]
    exact fun c hc => decide_eq_true (Nat.lt_trans (h c hc) (by decide))
  · simp only [PyData.weight]
    exact l
theorem LS_low : ∀ c ∈ LS.cps.toList, c < 1114112 := by decide +kernel
theorem Fit.name {z : Str} {a b : Nat} (h : Lt a b z) : Fit b 0 (.str z) := .str (fun c hc => LS_low c (h.ch c hc)) h.hi
theorem dig_short : ∀ n : Nat, n < 10 → (PyData.shown (.int (n : Nat))).length ≤ 8 ∧ PyData.weight (.int (n : Nat)) ≤ 4 ∧ PyData.showable (.int (n : Nat)) = true := by decide +kernel
theorem Fit.digit {n : Int} (h0 : 0 ≤ n) (h1 : n ≤ 9) : Fit 4 0 (.int n) := by
  obtain ⟨k, rfl⟩ := Int.eq_ofNat_of_zero_le h0
  have z := dig_short k (by omega)
  refine ⟨by simp only [PyData.canLay0], z.2.2, ?_, by simp only [PyData.depth]; omega, z.2.1⟩
  simp only [PyData.leavesShort]
  exact decide_eq_true z.1
/-! ### data at a value -/
theorem dp_tup {K : PySem.W.Frag} {G : Hp} {v : V} {ds : List PyData} (h : Dp K G v (.tuple ds)) : ∃ a xs, v = .ref a ∧ SqT K G a xs ∧ DpAll K G xs ds := by
  cases h with
  | tup h1 h2 => exact ⟨_, _, rfl, h1, h2⟩
theorem dpa_cons {K : PySem.W.Frag} {G : Hp} {xs : List V} {d : PyData} {ds : List PyData} (h : DpAll K G xs (d :: ds)) : ∃ x r, xs = x :: r ∧ Dp K G x d ∧ DpAll K G r ds := by
  cases h with
  | cons h1 h2 => exact ⟨_, _, rfl, h1, h2⟩
theorem dpa_nil {K : PySem.W.Frag} {G : Hp} {xs : List V} (h : DpAll K G xs []) : xs = [] := by
  cases h
  rfl
theorem dp_str {K : PySem.W.Frag} {G : Hp} {v : V} {z : Str} (h : Dp K G v (.str z)) : v = .str z := by
  cases h
  rfl
theorem dpa_len {K : PySem.W.Frag} {G : Hp} : ∀ {xs : List V} {ds : List PyData}, DpAll K G xs ds → xs.length = ds.length
  | _, _, .nil => rfl
  | _, _, .cons _ h => congrArg (· + 1) (dpa_len h)
theorem dpa_get {K : PySem.W.Frag} {G : Hp} : ∀ {xs : List V} {ds : List PyData} {i : Nat} {x : V}, DpAll K G xs ds → xs[i]? = some x → ∃ d, ds[i]? = some d ∧ Dp K G x d
  | _, _, _, _, .nil, h => by simp at h
  | _, _, 0, _, .cons h1 _, h => by
    simp at h
    subst h
    exact ⟨_, rfl, h1⟩
  | _, _, i + 1, _, .cons _ h2, h => by
    rw [List.getElem?_cons_succ] at h
    obtain ⟨d, e1, e2⟩ := dpa_get h2 h
    exact ⟨d, by rw [List.getElem?_cons_succ]; exact e1, e2⟩
theorem dpa_app {K : PySem.W.Frag} {G : Hp} : ∀ {xs ys : List V} {ds es : List PyData}, DpAll K G xs ds → DpAll K G ys es → DpAll K G (xs ++ ys) (ds ++ es)
  | _, _, _, _, .nil, h => h
  | _, _, _, _, .cons h1 h2, h => .cons h1 (dpa_app h2 h)
theorem dpa_take {K : PySem.W.Frag} {G : Hp} : ∀ {xs : List V} {ds : List PyData} (n : Nat), DpAll K G xs ds → DpAll K G (xs.take n) (ds.take n)
  | _, _, 0, _ => .nil
  | _, _, _ + 1, .nil => .nil
  | _, _, n + 1, .cons h1 h2 => .cons h1 (dpa_take n h2)
theorem dpa_drop {K : PySem.W.Frag} {G : Hp} : ∀ {xs : List V} {ds : List PyData} (n : Nat), DpAll K G xs ds → DpAll K G (xs.drop n) (ds.drop n)
  | _, _, 0, h => h
  | _, _, _ + 1, .nil => .nil
  | _, _, n + 1, .cons _ h2 => dpa_drop n h2
theorem dpa_one {K : PySem.W.Frag} {G : Hp} {v : V} {d : PyData} (h : Dp K G v d) : DpAll K G [v] [d] := .cons h .nil
theorem Sep.mk {G H : Hp} {M : List (Addr × HO)} {p : Addr} {o : HO} (S : Sep G M H) (h : H p = none) : ∃ G', Same G G' ∧ Sep G' M (upd H p o) ∧ G' p = some o := ⟨_, S.grow h, S.newG h, upd_same⟩

/-- data of a bounded size -/
structure OkE (b dp : Nat) (d : PyData) : Prop where
  sw : d.showable = true
  tb : PySem.tbE d ≤ b
  wt : d.weight ≤ b
  dp : d.depth ≤ dp
theorem OkE.mono {b dp b' dp' : Nat} {d : PyData} (h : OkE b dp d) (h1 : b ≤ b') (h2 : dp ≤ dp') : OkE b' dp' d := ⟨h.sw, Nat.le_trans h.tb h1, Nat.le_trans h.wt h1, Nat.le_trans h.dp h2⟩
/-- a row of data -/
structure OkEs (b dp : Nat) (ds : List PyData) : Prop where
  sw : PyData.showableAll ds = true
  tb : PySem.tbEs ds ≤ b
  wt : PyData.weightAll ds ≤ b
  dp : PyData.depthAll ds ≤ dp
theorem OkEs.nil {dp : Nat} : OkEs 0 dp [] := ⟨by simp only [PyData.showableAll], by simp only [PySem.tbEs]; omega, by simp only [PyData.weightAll]; omega, by simp only [PyData.depthAll]; omega⟩
theorem OkEs.cons {b c dp : Nat} {d : PyData} {ds : List PyData} (h : OkE b dp d) (t : OkEs c dp ds) : OkEs (b + 2 + c) dp (d :: ds) := by
  have h1 := h.tb
  have h2 := h.wt
  have h3 := h.dp
  have t1 := t.tb
  have t2 := t.wt
  have t3 := t.dp
  refine ⟨by simp only [PyData.showableAll, h.sw, t.sw, Bool.and_self], ?_, ?_, ?_⟩
  · simp only [PySem.tbEs]; omega
  · simp only [PyData.weightAll]; omega
  · simp only [PyData.depthAll]; omega
theorem OkEs.mono {b dp b' dp' : Nat} {d : List PyData} (h : OkEs b dp d) (h1 : b ≤ b') (h2 : dp ≤ dp') : OkEs b' dp' d := ⟨h.sw, Nat.le_trans h.tb h1, Nat.le_trans h.wt h1, Nat.le_trans h.dp h2⟩
theorem OkEs.hd {b dp : Nat} {d : PyData} {ds : List PyData} (h : OkEs b dp (d :: ds)) : OkE b dp d := by
  have h0 := h.sw
  have h1 := h.tb
  have h2 := h.wt
  have h3 := h.dp
  simp only [PyData.showableAll, Bool.and_eq_true] at h0
  simp only [PySem.tbEs] at h1
  simp only [PyData.weightAll] at h2
  simp only [PyData.depthAll] at h3
  exact ⟨h0.1, by omega, by omega, by omega⟩
theorem OkEs.tl {b dp : Nat} {d : PyData} {ds : List PyData} (h : OkEs b dp (d :: ds)) : OkEs b dp ds := by
  have h0 := h.sw
  have h1 := h.tb
  have h2 := h.wt
  have h3 := h.dp
  simp only [PyData.showableAll, Bool.and_eq_true] at h0
  simp only [PySem.tbEs] at h1
  simp only [PyData.weightAll] at h2
  simp only [PyData.depthAll] at h3
  exact ⟨h0.2, by omega, by omega, by omega⟩
theorem OkEs.mem {b dp : Nat} : ∀ {ds : List PyData} {y : PyData}, OkEs b dp ds → y ∈ ds → OkE b dp y
  | x :: r, y, h, hy => by
    rcases List.mem_cons.mp hy with rfl | hy
    · exact h.hd
    · exact h.tl.mem hy
theorem OkEs.tup {b dp : Nat} {ds : List PyData} (h : OkEs b dp ds) : OkE (b + 7) (dp + 1) (.tuple ds) := by
  have h1 := h.tb
  have h2 := h.wt
  have h3 := h.dp
  refine ⟨by simp only [PyData.showable]; exact h.sw, ?_, ?_, ?_⟩
  · simp only [PySem.tbE]; omega
  · simp only [PyData.weight]; omega
  · simp only [PyData.depth]; omega
theorem OkEs.lst {b dp : Nat} {ds : List PyData} (h : OkEs b dp ds) : OkE (b + 7) (dp + 1) (.list ds) := by
  have h1 := h.tb
  have h2 := h.wt
  have h3 := h.dp
  refine ⟨by simp only [PyData.showable]; exact h.sw, ?_, ?_, ?_⟩
  · simp only [PySem.tbE]; omega
  · simp only [PyData.weight]; omega
  · simp only [PyData.depth]; omega
theorem OkE.kids {b dp : Nat} {ds : List PyData} (h : OkE b dp (.tuple ds)) : OkEs b (dp - 1) ds := by
  have h0 := h.sw
  have h1 := h.tb
  have h2 := h.wt
  have h3 := h.dp
  simp only [PyData.showable] at h0
  simp only [PySem.tbE] at h1
  simp only [PyData.weight] at h2
  simp only [PyData.depth] at h3
  exact ⟨h0, by omega, h2, by omega⟩
theorem OkE.as_list {b dp : Nat} {ds : List PyData} (h : OkE b dp (.tuple ds)) : OkE b dp (.list ds) := by
  have h0 := h.sw
  have h1 := h.tb
  have h2 := h.wt
  have h3 := h.dp
  simp only [PyData.showable] at h0
  simp only [PySem.tbE] at h1
  simp only [PyData.weight] at h2
  simp only [PyData.depth] at h3
  exact ⟨by simp only [PyData.showable]; exact h0, by simp only [PySem.tbE]; omega, by simp only [PyData.weight]; omega, by simp only [PyData.depth]; omega⟩
mutual
theorem shown_tb : ∀ d : PyData, d.shown.length ≤ PySem.tbE d
  | .none => by simp only [PySem.tbE]; omega
  | .bool _ => by simp only [PySem.tbE]; omega
  | .int _ => by simp only [PySem.tbE]; omega
  | .str _ => by simp only [PySem.tbE]; omega
  | .dict _ => by simp only [PySem.tbE]; omega
  | .list xs => by
    have h1 := shown_tbs xs
    have h2 := listText_len_le (PyData.shownAll xs)
    have h3 := shownAll_len xs
    simp only [PySem.tbE, PyData.shown]
    omega
  | .tuple xs => by
    have h1 := shown_tbs xs
    have h2 := tupleText_len_le (PyData.shownAll xs)
    have h3 := shownAll_len xs
    simp only [PySem.tbE, PyData.shown]
    omega
theorem shown_tbs : ∀ ds : List PyData, ((PyData.shownAll ds).map (·.length)).sum + 2 * ds.length ≤ PySem.tbEs ds
  | [] => by simp only [PyData.shownAll, List.map_nil, List.sum_nil, List.length_nil, PySem.tbEs]; omega
  | x :: r => by
    have h1 := shown_tb x
    have h2 := shown_tbs r
    simp only [PyData.shownAll, List.map_cons, List.sum_cons, List.length_cons, PySem.tbEs]
    omega
theorem shownAll_len : ∀ ds : List PyData, (PyData.shownAll ds).length = ds.length
  | [] => by simp only [PyData.shownAll, List.length_nil]
  | x :: r => by
    have := shownAll_len r
    simp only [PyData.shownAll, List.length_cons, this]
end
/-- repr() of it -/
theorem rep_e {K : PySem.W.Frag} {xs : List V} {H : Hp} {Q : VK} {v : V} {d : PyData} {b dp : Nat} (e : xs = [v]) (hv : Dp K H v d) (ok : OkE b dp d) (h1 : b ≤ 100000) (h2 : dp ≤ 64) (q : Q (.str d.shown) H) : rReprE K xs H Q :=
  ⟨v, d, e, hv, ok.sw, Nat.le_trans ok.dp h2, small (by have := shown_tb d; have := ok.tb; omega), q⟩
theorem rp_e {K : PySem.W.Frag} {H : Hp} {v : V} {d : PyData} {b dp : Nat} (hv : Dp K H v d) (ok : OkE b dp d) (h1 : b ≤ 100000) (h2 : dp ≤ 64) : RpE K H v := ⟨d, hv, ok.sw, Nat.le_trans ok.tb h1, Nat.le_trans ok.dp h2⟩
/-! leaves -/
theorem OkE.leaf {b : Nat} {d : PyData} (hs : d.showable = true) (ht : PySem.tbE d ≤ b) (hw : d.weight ≤ b) (hd : d.depth = 0) : OkE b 0 d := ⟨hs, ht, hw, by omega⟩
theorem OkE.str {b : Nat} {z : Str} (h : ∀ c ∈ z.cps.toList, c < 1114112) (l : 10 * z.length + 15 ≤ b) : OkE b 0 (.str z) := by
  have f : Fit z.length 0 (.str z) := .str h (Nat.le_refl _)
  have h1 := PyData.shown_le 8 (by decide) _ f.ls
  have h2 := f.wt
  refine .leaf f.sh ?_ (by omega) (by have := f.dp; omega)
  simp only [PySem.tbE]
  omega

/-! ### fields -/
theorem putF_ne {f g : Str} {v x : V} {r : List (Str × V)} (h : decide (g = f) = false := by decide +kernel) : putF f v ((g, x) :: r) = (g, x) :: putF f v r := by
  show (if g = f then _ else _) = _
  rw [if_neg (of_decide_eq_false h)]
theorem putF_eq {f : Str} {v x : V} {r : List (Str × V)} : putF f v ((f, x) :: r) = (f, v) :: r := by
  show (if f = f then _ else _) = _
  rw [if_pos rfl]
theorem putF_nil {f : Str} {v : V} : putF f v [] = [(f, v)] := rfl
theorem lk_ne {f g : Str} {x : V} {r : List (Str × V)} (h : (f == g) = false := by decide +kernel) : List.lookup f ((g, x) :: r) = List.lookup f r := by simp [List.lookup, h]
theorem lk_eq {f : Str} {x : V} {r : List (Str × V)} : List.lookup f ((f, x) :: r) = some x := by simp [List.lookup]
theorem Sep.keep {G H : Hp} {M : List (Addr × HO)} {p : Addr} {o : HO} (S : Sep G ((p, o) :: M) H) : ∃ G', Same G G' ∧ Sep G' M H ∧ G' p = some o := ⟨_, S.frzS, S.frz, upd_same⟩

section
variable {P : Program} {w : World} {K : PySem.W.Frag} {mg : Str → Option Value} {base : Heap}
/-! ### forms as data: the first wrong part -/
def numOk : PyData → Bool
  | .int n => decide (0 ≤ n ∧ n ≤ 9)
  | _ => false
def nameS (y : Str) : Bool := decide (1 ≤ y.length) && (decide (y.length ≤ 8) && y.cps.toList.all fun c => decide (c ∈ ("abcdefghijklmnopqrstuvwxyz" : Str).cps.toList))
def nameOk : PyData → Bool
  | .str y => nameS y
  | _ => false
def headN (x : Str) : Nat := if x = "is" then 2 else if x = "get" then 2 else if x = "sum" then 3 else if x = "same" then 3 else if x = "pick" then 4 else 0
def partOk : PyData → Bool
  | .tuple (.str x :: r) => decide (headN x = r.length + 1) && (if x = "is" then numOk (r.headD .none) else if x = "get" then nameOk (r.headD .none) else true)
  | _ => false
def leafH : PyData → Bool
  | .str x => decide (x = "is" ∨ x = "get")
  | _ => false
mutual
def fb : PyData → Option PyData
  | .tuple (h :: r) => if partOk (.tuple (h :: r)) then (if leafH h then none else fbs r) else some (.tuple (h :: r))
  | .tuple [] => some (.tuple [])
  | .none => some .none
  | .bool b => some (.bool b)
  | .int n => some (.int n)
  | .str x => some (.str x)
  | .list l => some (.list l)
  | .dict kv => some (.dict kv)
def fbs : List PyData → Option PyData
  | [] => none
  | x :: r => match fb x with
    | some p => some p
    | none => fbs r
end
mutual
def lev : PyData → Nat
  | .tuple (h :: r) => if leafH h then 1 else levs r + 1
  | .tuple [] => 1
  | .none => 1
  | .bool _ => 1
  | .int _ => 1
  | .str _ => 1
  | .list _ => 1
  | .dict _ => 1
def levs : List PyData → Nat
  | [] => 0
  | x :: r => max (lev x) (levs r)
end
mutual
def nds : PyData → Nat
  | .tuple (_ :: r) => ndss r + 1
  | .tuple [] => 1
  | .none => 1
  | .bool _ => 1
  | .int _ => 1
  | .str _ => 1
  | .list _ => 1
  | .dict _ => 1
def ndss : List PyData → Nat
  | [] => 0
  | x :: r => nds x + ndss r
end
theorem nds_pos : ∀ d : PyData, 0 < nds d
  | .tuple (_ :: r) => by simp only [nds]; omega
  | .tuple [] => by simp only [nds]; omega
  | .none => by simp only [nds]; omega
  | .bool _ => by simp only [nds]; omega
  | .int _ => by simp only [nds]; omega
  | .str _ => by simp only [nds]; omega
  | .list _ => by simp only [nds]; omega
  | .dict _ => by simp only [nds]; omega
theorem ndss_len : ∀ r : List PyData, r.length ≤ ndss r
  | [] => by simp
  | x :: r => by
    have h1 := nds_pos x
    have h2 := ndss_len r
    simp only [ndss, List.length_cons]
    omega
theorem fb_bad {d : PyData} (h : partOk d = false) : fb d = some d := by
  cases d with
  | tuple xs => cases xs with
    | nil => simp only [fb]
    | cons x r => simp only [fb, h, Bool.false_eq_true, if_false]
  | _ => simp only [fb]
theorem fbs_app : ∀ a b : List PyData, fbs (a ++ b) = (fbs a).or (fbs b)
  | [], b => by simp [fbs]
  | x :: r, b => by
    rw [List.cons_append]
    simp only [fbs]
    cases fb x with
    | some p => simp
    | none => exact fbs_app r b
theorem part_at {d : PyData} (h : partOk d = true) : ∃ (x : Str) (r : List PyData), d = .tuple (.str x :: r) ∧ headN x = r.length + 1 ∧ (x = "is" → ∃ n, r = [.int n] ∧ 0 ≤ n ∧ n ≤ 9) ∧ (x = "get" → ∃ y, r = [.str y] ∧ nameS y = true) := by
  match d, h with
  | .tuple (.str x :: r), h =>
    simp only [partOk, Bool.and_eq_true, decide_eq_true_eq] at h
    refine ⟨x, r, rfl, h.1, fun e => ?_, fun e => ?_⟩
    · subst e
      have h2 : numOk (r.headD .none) = true := by simpa using h.2
      have h1 : r.length = 1 := by
        have : headN "is" = 2 := by decide +kernel
        omega
      match r, h1, h2 with
      | [d], _, h2 =>
        cases d with
        | int n => exact ⟨n, rfl, of_decide_eq_true h2⟩
        | _ => exact nomatch (show false = true from h2)
    · subst e
      have h2 : nameOk (r.headD .none) = true := by
        have e1 : ¬ (("get" : Str) = "is") := by decide +kernel
        simpa [e1] using h.2
      have h1 : r.length = 1 := by
        have : headN "get" = 2 := by decide +kernel
        omega
      match r, h1, h2 with
      | [d], _, h2 =>
        cases d with
        | str y => exact ⟨y, rfl, h2⟩
        | _ => exact nomatch (show false = true from h2)
theorem fb_leaf {x : Str} {r : List PyData} (hp : partOk (.tuple (.str x :: r)) = true) (h : x = "is" ∨ x = "get") : fb (.tuple (.str x :: r)) = none ∧ lev (.tuple (.str x :: r)) = 1 := by
  have e : leafH (.str x) = true := decide_eq_true h
  simp only [fb, lev, hp, e, if_true, and_self]
theorem fb_node {x : Str} {r : List PyData} (hp : partOk (.tuple (.str x :: r)) = true) (h : x ≠ "is" ∧ x ≠ "get") : fb (.tuple (.str x :: r)) = fbs r ∧ lev (.tuple (.str x :: r)) = levs r + 1 := by
  have e : leafH (.str x) = false := decide_eq_false (by rw [not_or]; exact h)
  simp only [fb, lev, hp, e, if_true, Bool.false_eq_true, if_false, and_self]
/-- texts are short -/
def strsOk (d : PyData) : Prop := ∀ y, d = .str y → y.length ≤ 100000
theorem sqL_ty {K : PySem.W.Frag} {H : Hp} {a : Addr} {xs : List V} (h : SqL K H a xs) : TyX K H (.ref a) (.type "list") := by
  rcases h with (h | ⟨o, h⟩) | ⟨o, _, _, h, c, _⟩
  · exact .base (.lst h)
  · exact .base (.frz h)
  · exact .kList h c
/-! the program's small asks, of any thing -/
def spNumG (K : PySem.W.Frag) : Sp := fun vs H Q _ => ∃ (v : V) (d : PyData), vs = [v, .int 0, .int 9] ∧ Dp K H v d ∧ Q (.bl (numOk d)) H
theorem ok_is_numberG (T : Top K mg w) {k : Nat} : FnOk P w K mg base CX0 (k + 1) T.a_is_number T.d_is_number ["thing", "low", "high"] (spNumG K) := by
  refine T.F_is_number.ok sc_is_number (fun vs H Q E h => ?_) (fun cdv A outer s H vs Q E hr h => ?_)
  · obtain ⟨v, d, rfl, _⟩ := h
    rfl
  · obtain ⟨v, d, rfl, hv, q⟩ := h
    refine ⟨_, (pss_one (ps_ret (xe_and (pe_callB (call_isK K) (by rfl) T.m_isinstance (by decide +kernel) (pa_cons (xv 0) (pa_cons (pe_bltn (v := .ty "int") (by rfl) T.m_int (by decide +kernel) rfl) pa_nil))) (xe_and (xe_not (pe_callB (call_isK K) (by rfl) T.m_isinstance (by decide +kernel) (pa_cons (xv 0) (pa_cons (pe_bltn (v := .ty "bool") (by rfl) T.m_bool (by decide +kernel) rfl) pa_nil)))) (pe_one (xe_chain op_leY op_leY (xv 1) (xv 0) (xv 2))))))), ?_⟩
    cases hv with
    | non => exact ⟨_, _, _, _, false, rfl, .ty _, .base .non, kit_ty (by decide +kernel), ff, fun _ => q⟩
    | bl b => exact ⟨_, _, _, _, true, rfl, .ty _, .base (.bl _), kit_ty (by decide +kernel), fun _ => ⟨_, _, _, _, true, rfl, .ty _, .base (.bl _), kit_ty (by decide +kernel), ff, fun _ => q⟩, tt⟩
    | int i =>
      refine ⟨_, _, _, _, true, rfl, .ty _, .base (.int _), kit_ty (by decide +kernel), fun _ => ⟨_, _, _, _, false, rfl, .ty _, .base (.int _), kit_ty (by decide +kernel), fun _ => ?_, tt⟩, tt⟩
      refine ⟨fun e => ?_, fun e => ?_⟩
      · have e0 := of_decide_eq_true e
        have e1 : decide (i ≤ 9) = numOk (.int i) := by
          show decide (i ≤ 9) = decide (0 ≤ i ∧ i ≤ 9)
          rw [decide_eq_decide]
          omega
        show Q (.bl (decide (i ≤ 9))) H
        rw [e1]
        exact q
      · have e0 := of_decide_eq_false e
        have e1 : numOk (.int i) = false := decide_eq_false (by omega)
        rw [e1] at q
        exact q
    | str x => exact ⟨_, _, _, _, false, rfl, .ty _, .base (.str _), kit_ty (by decide +kernel), ff, fun _ => q⟩
    | lst h1 _ => exact ⟨_, _, _, _, false, rfl, .ty _, sqL_ty h1, kit_ty (by decide +kernel), ff, fun _ => q⟩
    | emp h1 => exact ⟨_, _, _, _, false, rfl, .ty _, emp_ty h1, kit_ty (by decide +kernel), ff, fun _ => q⟩
    | tup h1 _ => exact ⟨_, _, _, _, false, rfl, .ty _, sqT_ty h1, kit_ty (by decide +kernel), ff, fun _ => q⟩
def spNameG (K : PySem.W.Frag) : Sp := fun vs H Q _ => ∃ (G : Hp) (M : List (Addr × HO)) (v : V) (d : PyData), vs = [v] ∧ Sep G M H ∧ Dp K H v d ∧ strsOk d ∧ ∀ G' H', Same G G' → Sep G' M H' → Q (.bl (nameOk d)) H'
theorem ok_is_nameG (T : Top K mg w) {k : Nat} : FnOk P w K mg base CX0 (k + 1) T.a_is_name T.d_is_name ["thing"] (spNameG K) := by
  refine T.F_is_name.ok sc_is_name (fun vs H Q E h => ?_) (fun cdv A outer s H vs Q E hr h => ?_)
  · obtain ⟨G, M, v, d, rfl, _⟩ := h
    rfl
  · obtain ⟨G, M, v, d, rfl, S, hv, sh, q⟩ := h
    refine ⟨_, (pss_cons (xs_if (PW.pt (xw_or (pt_not (xt_truK K (pe_callB (call_isK K) (by rfl) T.m_isinstance (by decide +kernel) (pa_cons (xv 0) (pa_cons (pe_bltn (v := .ty "str") (by rfl) T.m_str (by decide +kernel) rfl) pa_nil))))) (xw_or (xt_cmp op_ltY (pe_callB (cr_lenK K) (by rfl) T.m_len (by decide +kernel) (pa_cons (xv 0) pa_nil)) pe_int (nomark _)) (pw_or1 (xt_cmp op_gtY (pe_callB (cr_lenK K) (by rfl) T.m_len (by decide +kernel) (pa_cons (xv 0) pa_nil)) pe_int (nomark _))))))
      (pss_one (ps_ret pe_bl))
      pss_nil)
      (pss_one (ps_ret (pe_callB (cr_allK K rfl) (by rfl) T.m_all (by decide +kernel) (pa_cons (pe_lc (own := [("sign", 1)]) (by rfl) sc_is_name.nd (pi_str (xv 0)) (blkOk_by (N := ["thing", "sign"]) (sc := defScope s_is_name) (by decide +kernel)) (fun _ _ _ _ _ => (pg_name (i := 1) sc_is_name.nd rfl (.inl rfl))) (fun _ _ _ _ _ => pts_nil) (fun _ _ _ _ _ => (pe_cmpR op_in_sign (xv 1) (xe_glob (by rfl) T.v_LETTERS) (by rfl)))) pa_nil))))), ?_⟩
    have q0 := q G H (Same.refl _) S
    cases hv with
    | non => exact ⟨_, _, _, _, false, rfl, .ty _, .base .non, kit_ty (by decide +kernel), fun _ => ⟨fun _ => q0, tt⟩, tt⟩
    | bl b => exact ⟨_, _, _, _, false, rfl, .ty _, .base (.bl _), kit_ty (by decide +kernel), fun _ => ⟨fun _ => q0, tt⟩, tt⟩
    | int i => exact ⟨_, _, _, _, false, rfl, .ty _, .base (.int _), kit_ty (by decide +kernel), fun _ => ⟨fun _ => q0, tt⟩, tt⟩
    | lst h1 _ => exact ⟨_, _, _, _, false, rfl, .ty _, sqL_ty h1, kit_ty (by decide +kernel), fun _ => ⟨fun _ => q0, tt⟩, tt⟩
    | emp h1 => exact ⟨_, _, _, _, false, rfl, .ty _, emp_ty h1, kit_ty (by decide +kernel), fun _ => ⟨fun _ => q0, tt⟩, tt⟩
    | tup h1 _ => exact ⟨_, _, _, _, false, rfl, .ty _, sqT_ty h1, kit_ty (by decide +kernel), fun _ => ⟨fun _ => q0, tt⟩, tt⟩
    | str x =>
      have hz : x.length ≤ sizeLine := small (by have := sh x rfl; omega)
      refine ⟨_, _, _, _, true, rfl, .ty _, .base (.str _), kit_ty (by decide +kernel), ff, fun _ => ⟨hz, fun e => ?_, fun e0 => ⟨hz, fun e => ?_, fun e1 => ?_⟩⟩⟩
      · have z := of_decide_eq_true e
        have e2 : nameOk (.str x) = false := by
          show nameS x = false
          unfold nameS
          rw [decide_eq_false (show ¬ 1 ≤ x.length by omega), Bool.false_and]
        rw [e2] at q0
        exact ⟨fun _ => q0, tt⟩
      · have z : (8 : Int) < x.length := of_decide_eq_true e
        have e2 : nameOk (.str x) = false := by
          show nameS x = false
          unfold nameS
          rw [decide_eq_false (show ¬ x.length ≤ 8 by omega), Bool.false_and, Bool.and_false]
        rw [e2] at q0
        exact q0
      · have z0 : ¬ ((x.length : Nat) : Int) < 1 := of_decide_eq_false e0
        have z1 : ¬ (8 : Int) < x.length := of_decide_eq_false e1
        have e2 : nameOk (.str x) = x.cps.toList.all fun c => decide (c ∈ ("abcdefghijklmnopqrstuvwxyz" : Str).cps.toList) := by
          show nameS x = _
          unfold nameS
          rw [decide_eq_true (show 1 ≤ x.length by omega), decide_eq_true (show x.length ≤ 8 by omega), Bool.true_and, Bool.true_and]
        have xl : x.cps.size = x.length := rfl
        refine ⟨x, rfl, fun L nL => lc_it (walk_str (z := x)) (fun i H' => Sep G ((L, .lst (((x.cps.toList.take i).map fun c => decide (c ∈ ("abcdefghijklmnopqrstuvwxyz" : Str).cps.toList)).map V.bl)) :: M) H') (S.new nL) (fun _ _ _ _ => trivial) (fun i v H1 H' hi p y => ?_) (fun H' S1 => ?_)⟩
        · obtain ⟨rfl, c, hc, rfl⟩ := y
          have hc2 : x.cps.toList[i]? = some c := by rw [Array.getElem?_toList]; exact hc
          refine ⟨rfl, c, _, rfl, rfl, _, p.hd, ?_, ?_⟩
          · rw [List.length_map, List.length_map, List.length_take]
            exact smallL (by omega)
          · rw [take_snoc hc2, List.map_append, List.map_append]
            exact p.set
        · have e3 : x.cps.toList.take x.cps.size = x.cps.toList := List.take_of_length_le (by simp)
          rw [e3] at S1
          refine ⟨L, _, rfl, SqL.of S1.hd, ?_⟩
          have e4 : (x.cps.toList.map fun c => decide (c ∈ ("abcdefghijklmnopqrstuvwxyz" : Str).cps.toList)).all id = nameOk (.str x) := by
            rw [e2, List.all_map]
            rfl
          rw [e4]
          exact q _ _ S1.frzS S1.frz

end
end K02
set_option Elab.async false
set_option linter.all false
set_option maxRecDepth 100000
set_option maxHeartbeats 4000000
namespace K02
open PySem PySem.Spec PyProof.Rows L2 XL
section
variable {P : Program} {w : World} {K : PySem.W.Frag} {mg : Str → Option Value} {base : Heap}
/-! ### is_part, of any thing -/
theorem weight_mem : ∀ {l : List PyData} {d : PyData}, d ∈ l → d.weight ≤ PyData.weightAll l
  | x :: r, d, h => by
    simp only [PyData.weightAll]
    rcases List.mem_cons.mp h with rfl | h
    · omega
    · have := weight_mem h
      omega
theorem strs_of {d : PyData} (h : d.weight ≤ 100000) : strsOk d := fun y e => by
  subst e
  simp only [PyData.weight] at h
  exact h
theorem cnt_none {K : PySem.W.Frag} {D : Addr} {es : Array DictEntry} {n : Nat} (hl : K.lookup D = some ⟨.type "dict", none, .dict es n, #[]⟩) {ks : List Value} (hk : es.toList.map (fun e => e.key) = ks) {x : Str} (h : ∀ k ∈ ks, ∃ y t, k = .str y t ∧ y ≠ x) : PySem.W.nsIn K D x = some none := by
  subst hk
  have h2 : ∀ e ∈ es.toList, ∃ y t, e.key = .str y t ∧ y ≠ x := fun e he => h _ (List.mem_map_of_mem he)
  unfold PySem.W.nsIn
  rw [hl]
  have e1 : es.toList.find? (fun e => e.key.isStr x) = none := by
    rw [List.find?_eq_none]
    intro e he q
    obtain ⟨y, t, e2, ne⟩ := h2 e he
    rw [e2] at q
    have q : (y == x) = true := q
    exact ne (eq_of_beq q)
  have e2 : es.toList.any (fun e => e.refKey) = false := by
    rw [List.any_eq_false]
    intro e he q
    obtain ⟨y, t, e2, ne⟩ := h2 e he
    unfold DictEntry.refKey at q
    rw [e2] at q
    exact nomatch q
  simp only [e1, e2, Bool.false_eq_true, if_false]
theorem headN_none {x : Str} (h : headN x = 0) : x ≠ "is" ∧ x ≠ "get" ∧ x ≠ "sum" ∧ x ≠ "same" ∧ x ≠ "pick" := by
  unfold headN at h
  split at h
  · exact nomatch h
  split at h
  · exact nomatch h
  split at h
  · exact nomatch h
  split at h
  · exact nomatch h
  split at h
  · exact nomatch h
  · exact ⟨by assumption, by assumption, by assumption, by assumption, by assumption⟩
theorem headN_some {x : Str} (h : headN x ≠ 0) : x = "is" ∨ x = "get" ∨ x = "sum" ∨ x = "same" ∨ x = "pick" := by
  refine Decidable.byContradiction fun hn => h ?_
  simp only [not_or] at hn
  obtain ⟨h1, h2, h3, h4, h5⟩ := hn
  unfold headN
  rw [if_neg h1, if_neg h2, if_neg h3, if_neg h4, if_neg h5]
theorem cnt_at (T : Top K mg w) (x : Str) : ∃ r, PySem.W.nsIn K T.D_COUNTS x = some r ∧ (headN x = 0 → r = none) ∧ (headN x ≠ 0 → ∃ t, r = some (.int (headN x : Nat) t)) := by
  by_cases h : headN x = 0
  · obtain ⟨n1, n2, n3, n4, n5⟩ := headN_none h
    obtain ⟨t0, t1, t2, t3, t4, hk⟩ := T.z_COUNTS
    refine ⟨none, cnt_none T.l_COUNTS hk fun k hk => ?_, fun _ => rfl, fun h2 => absurd h h2⟩
    simp only [List.mem_cons, List.not_mem_nil, or_false] at hk
    rcases hk with rfl | rfl | rfl | rfl | rfl
    · exact ⟨_, _, rfl, n1.symm⟩
    · exact ⟨_, _, rfl, n2.symm⟩
    · exact ⟨_, _, rfl, n3.symm⟩
    · exact ⟨_, _, rfl, n4.symm⟩
    · exact ⟨_, _, rfl, n5.symm⟩
  · rcases headN_some h with rfl | rfl | rfl | rfl | rfl
    · obtain ⟨t, k⟩ := T.k_COUNTS_0
      exact ⟨_, k, fun e => absurd e (by decide +kernel), fun _ => ⟨t, by rw [show headN "is" = 2 by decide +kernel]; rfl⟩⟩
    · obtain ⟨t, k⟩ := T.k_COUNTS_1
      exact ⟨_, k, fun e => absurd e (by decide +kernel), fun _ => ⟨t, by rw [show headN "get" = 2 by decide +kernel]; rfl⟩⟩
    · obtain ⟨t, k⟩ := T.k_COUNTS_2
      exact ⟨_, k, fun e => absurd e (by decide +kernel), fun _ => ⟨t, by rw [show headN "sum" = 3 by decide +kernel]; rfl⟩⟩
    · obtain ⟨t, k⟩ := T.k_COUNTS_3
      exact ⟨_, k, fun e => absurd e (by decide +kernel), fun _ => ⟨t, by rw [show headN "same" = 3 by decide +kernel]; rfl⟩⟩
    · obtain ⟨t, k⟩ := T.k_COUNTS_4
      exact ⟨_, k, fun e => absurd e (by decide +kernel), fun _ => ⟨t, by rw [show headN "pick" = 4 by decide +kernel]; rfl⟩⟩
theorem part_ne {x : Str} {r : List PyData} (h : headN x ≠ r.length + 1) : partOk (.tuple (.str x :: r)) = false := by
  simp only [partOk, decide_eq_false h, Bool.false_and]
theorem dp_tyx {K : PySem.W.Frag} {H : Hp} {v : V} {d : PyData} (h : Dp K H v d) : (∃ x, d = .str x ∧ v = .str x) ∨ ((∀ x, d ≠ .str x) ∧ ∃ t, TyX K H v (.type t) ∧ kitB t "str" = some false) := by
  cases h with
  | non => exact .inr ⟨fun x e => (nomatch e), _, .base .non, by decide +kernel⟩
  | bl b => exact .inr ⟨fun x e => (nomatch e), _, .base (.bl _), by decide +kernel⟩
  | int i => exact .inr ⟨fun x e => (nomatch e), _, .base (.int _), by decide +kernel⟩
  | str x => exact .inl ⟨x, rfl, rfl⟩
  | lst h1 _ => exact .inr ⟨fun x e => (nomatch e), _, sqL_ty h1, by decide +kernel⟩
  | emp h1 => exact .inr ⟨fun x e => (nomatch e), _, emp_ty h1, by decide +kernel⟩
  | tup h1 _ => exact .inr ⟨fun x e => (nomatch e), _, sqT_ty h1, by decide +kernel⟩
def spPartG (K : PySem.W.Frag) : Sp := fun vs H Q _ => ∃ (G : Hp) (M : List (Addr × HO)) (v : V) (d : PyData), vs = [v] ∧ Sep G M H ∧ Dp K H v d ∧ d.weight ≤ 100000 ∧ ∀ G' H', Same G G' → Sep G' M H' → Q (.bl (partOk d)) H'
theorem ok_is_partG (T : Top K mg w) {k : Nat} (G_is_number : FnOk P w K mg base CX0 (k + 1) T.a_is_number T.d_is_number ["thing", "low", "high"] (spNumG K)) (G_is_name : FnOk P w K mg base CX0 (k + 1) T.a_is_name T.d_is_name ["thing"] (spNameG K)) :
    FnOk P w K mg base CX0 (k + 2) T.a_is_part T.d_is_part ["part"] (spPartG K) := by
  refine T.F_is_part.ok sc_is_part (fun vs H Q E h => ?_) (fun cdv A outer s H vs Q E hr h => ?_)
  · obtain ⟨G, M, v, d, rfl, _⟩ := h
    rfl
  · obtain ⟨G, M, v, d, rfl, S, hv, wd1, q⟩ := h
    refine ⟨_, (pss_cons (xs_if (PW.pt (xw_or (pt_not (xt_truK K (pe_callB (call_isK K) (by rfl) T.m_isinstance (by decide +kernel) (pa_cons (xv 0) (pa_cons (pe_bltn (v := .ty "tuple") (by rfl) T.m_tuple (by decide +kernel) rfl) pa_nil))))) (pw_or1 (xt_cmp (op_eqLK K hr.u190) (pe_callB (cr_lenK K) (by rfl) T.m_len (by decide +kernel) (pa_cons (xv 0) pa_nil)) pe_int (nomark _)))))
      (pss_one (ps_ret pe_bl))
      pss_nil)
      (pss_cons (xs_if (PW.pt (xw_or (pt_not (xt_truK K (pe_callB (call_isK K) (by rfl) T.m_isinstance (by decide +kernel) (pa_cons (pe_ix (ix_k K) (xv 0) pe_int (fun _ _ => rfl)) (pa_cons (pe_bltn (v := .ty "str") (by rfl) T.m_str (by decide +kernel) rfl) pa_nil))))) (pw_or1 (xt_cmp (op_notIn_kd ⟨T.l_COUNTS, T.q_COUNTS, T.w_COUNTS⟩) (pe_ix (ix_k K) (xv 0) pe_int (fun _ _ => rfl)) (pe_glob (v := .ref T.D_COUNTS) (by rfl) T.g_COUNTS rfl) (by rfl)))))
      (pss_one (ps_ret pe_bl))
      pss_nil)
      (pss_cons (xs_if (xt_cmp (op_neLK K hr.u190) (pe_callB (cr_lenK K) (by rfl) T.m_len (by decide +kernel) (pa_cons (xv 0) pa_nil)) (pe_ix ix_kdict (pe_glob (v := .ref T.D_COUNTS) (by rfl) T.g_COUNTS rfl) (pe_ix (ix_k K) (xv 0) pe_int (fun _ _ => rfl)) (fun _ _ => rfl)) (nomark _))
      (pss_one (ps_ret pe_bl))
      pss_nil)
      (pss_cons (xs_if (xt_cmp (op_eqLK K hr.u190) (pe_ix (ix_k K) (xv 0) pe_int (fun _ _ => rfl)) pe_str (nomark _))
      (pss_one (ps_ret (pe_call G_is_number (hr.mono (by omega)) (by rfl) T.g_is_number T.F_is_number.kp T.b_is_number .nil pass0 (pa_cons (pe_ix (ix_k K) (xv 0) pe_int (fun _ _ => rfl)) (pa_cons pe_int (pa_cons pe_int pa_nil))))))
      pss_nil)
      (pss_cons (xs_if (xt_cmp (op_eqLK K hr.u190) (pe_ix (ix_k K) (xv 0) pe_int (fun _ _ => rfl)) pe_str (nomark _))
      (pss_one (ps_ret (pe_call G_is_name (hr.mono (by omega)) (by rfl) T.g_is_name T.F_is_name.kp T.b_is_name .nil pass0 (pa_cons (pe_ix (ix_k K) (xv 0) pe_int (fun _ _ => rfl)) pa_nil))))
      pss_nil)
      (pss_one (ps_ret pe_bl))))))), ?_⟩
    have q0 := q G H (Same.refl _) S
    cases hv with
    | non => exact ⟨_, _, _, _, false, rfl, .ty _, .base .non, kit_ty (by decide +kernel), fun _ => ⟨fun _ => q0, tt⟩, tt⟩
    | bl b => exact ⟨_, _, _, _, false, rfl, .ty _, .base (.bl _), kit_ty (by decide +kernel), fun _ => ⟨fun _ => q0, tt⟩, tt⟩
    | int i => exact ⟨_, _, _, _, false, rfl, .ty _, .base (.int _), kit_ty (by decide +kernel), fun _ => ⟨fun _ => q0, tt⟩, tt⟩
    | str x => exact ⟨_, _, _, _, false, rfl, .ty _, .base (.str _), kit_ty (by decide +kernel), fun _ => ⟨fun _ => q0, tt⟩, tt⟩
    | lst h1 _ => exact ⟨_, _, _, _, false, rfl, .ty _, sqL_ty h1, kit_ty (by decide +kernel), fun _ => ⟨fun _ => q0, tt⟩, tt⟩
    | emp h1 => exact ⟨_, _, _, _, false, rfl, .ty _, emp_ty h1, kit_ty (by decide +kernel), fun _ => ⟨fun _ => q0, tt⟩, tt⟩
    | @tup a xs ds h1 hd =>
      refine ⟨_, _, _, _, true, rfl, .ty _, sqT_ty h1, kit_ty (by decide +kernel), ff, fun _ => ?_⟩
      cases hd with
      | nil => exact ⟨_, .inr h1, fun _ => q0, fun e => absurd e (by simp)⟩
      | @cons v0 vr d0 r hv0 hvr =>
        have vl := dpa_len hvr
        have at0 : atI (v0 :: vr) 0 = some v0 := atI_nat (j := 0) rfl
        refine ⟨_, .inr h1, fun e => by have := of_decide_eq_true e; rw [List.length_cons] at this; omega, fun _ => ?_⟩
        rcases dp_tyx hv0 with ⟨x, rfl, rfl⟩ | ⟨ns, t, ty, kt⟩
        · refine ⟨_, _, .inr h1, at0, _, _, _, _, true, rfl, .ty _, .base (.str _), kit_ty (by decide +kernel), ff, fun _ => ?_⟩
          obtain ⟨rr, hrr, hz, hs⟩ := cnt_at T x
          refine ⟨_, _, .inr h1, at0, _, _, rfl, rfl, hrr, fun e => ?_, fun e => ?_⟩
          · have e0 : headN x = 0 := Decidable.of_not_not fun hn => by
              obtain ⟨t, rfl⟩ := hs hn
              exact nomatch e
            have e1 : partOk (.tuple (.str x :: r)) = false := part_ne (by omega)
            rw [e1] at q0
            exact q0
          · have hn : headN x ≠ 0 := fun e0 => by
              rw [hz e0] at e
              exact nomatch e
            obtain ⟨t, rfl⟩ := hs hn
            refine ⟨_, .inr h1, _, _, .inr h1, at0, _, _, .int (headN x : Nat), rfl, rfl, ⟨_, _, _, T.l_COUNTS, T.q_COUNTS, hrr, ⟨_, rfl⟩⟩, fun e => ?_, fun e => ?_⟩
            · have e0 : headN x ≠ r.length + 1 := fun e0 => by
                have : decide ((((V.str x :: vr).length : Nat) : Int) = (headN x : Nat)) = true := decide_eq_true (by rw [List.length_cons, vl]; omega)
                simp only [this] at e
                exact nomatch e
              have e1 : partOk (.tuple (.str x :: r)) = false := part_ne e0
              rw [e1] at q0
              exact q0
            · have e0 : headN x = r.length + 1 := by
                have e2 : (!decide ((((V.str x :: vr).length : Nat) : Int) = (headN x : Nat))) = false := e
                have := of_decide_eq_true (by simpa using e2 : decide ((((V.str x :: vr).length : Nat) : Int) = (headN x : Nat)) = true)
                rw [List.length_cons, vl] at this
                omega
              have w1 : ∀ d ∈ r, d.weight ≤ 100000 := fun d hd => by
                have := weight_mem (List.mem_cons_of_mem (.str x) hd)
                simp only [PyData.weight] at wd1
                omega
              have hd1 : headN x ≠ 1 → ∃ v1 vr' d1 r', vr = v1 :: vr' ∧ r = d1 :: r' ∧ Dp K H v1 d1 := fun hne => by
                cases hvr with
                | nil => exact absurd e0 hne
                | cons a b => exact ⟨_, _, _, _, rfl, rfl, a⟩
              refine ⟨_, _, .inr h1, at0, fun e => ?_, fun e => ?_⟩
              · have ex : x = "is" := of_decide_eq_true e
                subst ex
                obtain ⟨v1, vr', d1, r', rfl, rfl, h3⟩ := hd1 (by decide +kernel)
                have e1 : partOk (.tuple (.str "is" :: d1 :: r')) = numOk d1 := by
                  simp only [partOk, e0]
                  simp
                rw [e1] at q0
                exact ⟨_, _, .inr h1, atI_nat (j := 1) rfl, v1, d1, rfl, h3, q0⟩
              · have ne1 : x ≠ "is" := of_decide_eq_false e
                refine ⟨_, _, .inr h1, at0, fun e => ?_, fun e => ?_⟩
                · have ex : x = "get" := of_decide_eq_true e
                  subst ex
                  obtain ⟨v1, vr', d1, r', rfl, rfl, h3⟩ := hd1 (by decide +kernel)
                  have e1 : partOk (.tuple (.str "get" :: d1 :: r')) = nameOk d1 := by
                    simp only [partOk, e0]
                    simp [ne1]
                  refine ⟨_, _, .inr h1, atI_nat (j := 1) rfl, G, M, v1, d1, rfl, S, h3, strs_of (w1 d1 List.mem_cons_self), fun G' H' s' S' => ?_⟩
                  rw [← e1]
                  exact q G' H' s' S'
                · have ne2 : x ≠ "get" := of_decide_eq_false e
                  have e1 : partOk (.tuple (.str x :: r)) = true := by
                    simp only [partOk, e0]
                    simp [ne1, ne2]
                  rw [e1] at q0
                  exact q0
        · have e1 : partOk (.tuple (d0 :: r)) = false := by
            cases d0 with
            | str x => exact absurd rfl (ns x)
            | _ => rfl
          rw [e1] at q0
          exact ⟨_, _, .inr h1, at0, _, _, _, _, false, rfl, .ty _, ty, kit_ty kt, fun _ => ⟨fun _ => q0, tt⟩, tt⟩

end
end K02
set_option Elab.async false
set_option linter.all false
set_option maxRecDepth 100000
set_option maxHeartbeats 4000000
namespace K02
open PySem PySem.Spec PyProof.Rows L2 XL
section
variable {P : Program} {w : World} {K : PySem.W.Frag} {mg : Str → Option Value} {base : Heap}
/-! ### check_form, of any thing -/
def Rz (G : Hp) (M : List (Addr × HO)) (C : Addr) (fs : List (Str × V)) (E : XK) : Prop := ∀ (G' H' : Hp) (N : List (Addr × HO)) (dd : Addr), Same G G' → Sep G' (N ++ M) H' → H' dd = none → E (.ref C) (some dd) (upd H' dd (.xd fs))
theorem Rz.same {G G' : Hp} {M : List (Addr × HO)} {C : Addr} {fs : List (Str × V)} {E : XK} (h : Rz G M C fs E) (s : Same G G') : Rz G' M C fs E := fun G2 H' N dd s2 S n => h G2 H' N dd (s.trans s2) S n
theorem Rz.cell {G : Hp} {M : List (Addr × HO)} {C : Addr} {fs : List (Str × V)} {E : XK} (N' : List (Addr × HO)) (h : Rz G M C fs E) : Rz G (N' ++ M) C fs E := fun G2 H' N dd s2 S n => h G2 H' (N ++ N') dd s2 (by rw [List.append_assoc]; exact S) n
theorem Rz.now {G H : Hp} {M : List (Addr × HO)} {C : Addr} {fs : List (Str × V)} {E : XK} (h : Rz G M C fs E) (S : Sep G M H) (dd : Addr) (n : H dd = none) : E (.ref C) (some dd) (upd H dd (.xd fs)) := h G H [] dd (Same.refl _) S n
abbrev Okd := OkE 40000 64
theorem Okd.kid {xs : List PyData} (h : Okd (.tuple xs)) {y : PyData} (hy : y ∈ xs) : Okd y := (h.kids.mem hy).mono (Nat.le_refl _) (by decide)
theorem Okd.rp {K : PySem.W.Frag} {H : Hp} {v : V} {d : PyData} (h : Okd d) (hv : Dp K H v d) : RpE K H v := rp_e hv h (by decide) (by decide)
mutual
theorem nds_le : ∀ d : PyData, nds d ≤ d.weight + 1
  | .none => by simp only [nds]; omega
  | .bool _ => by simp only [nds]; omega
  | .int _ => by simp only [nds]; omega
  | .str _ => by simp only [nds]; omega
  | .list _ => by simp only [nds]; omega
  | .dict _ => by simp only [nds]; omega
  | .tuple [] => by simp only [nds]; omega
  | .tuple (h :: r) => by
    have := ndss_le r
    simp only [nds, PyData.weight, PyData.weightAll]
    omega
theorem ndss_le : ∀ xs : List PyData, ndss xs ≤ PyData.weightAll xs
  | [] => by simp only [ndss]; omega
  | x :: r => by
    have h1 := nds_le x
    have h2 := ndss_le r
    simp only [ndss, PyData.weightAll]
    omega
end
/-- on the stack -/
def WtD (K : PySem.W.Frag) (G : Hp) (v : V) (c : PyData × Int) : Prop := ∃ (t : Addr) (u : V), v = .ref t ∧ G t = some (.tup [u, .int c.2]) ∧ Dp K G u c.1 ∧ Okd c.1 ∧ 1 ≤ c.2
theorem WtD.same {K : PySem.W.Frag} {G G' : Hp} (e : Same G G') {v : V} {c : PyData × Int} (h : WtD K G v c) : WtD K G' v c := by
  obtain ⟨t, u, h1, h2, h3, h4⟩ := h
  exact ⟨t, u, h1, e _ _ h2, dp_same e h3, h4⟩
def wszD : List (PyData × Int) → Nat
  | [] => 0
  | c :: r => nds c.1 + wszD r
theorem wszD_app : ∀ (a b : List (PyData × Int)), wszD (a ++ b) = wszD a + wszD b
  | [], b => by simp [wszD]
  | c :: r, b => by simp only [List.cons_append, wszD, wszD_app r b]; omega
theorem wszD_len : ∀ (a : List (PyData × Int)), a.length ≤ wszD a
  | [] => by simp
  | c :: r => by
    have h1 := wszD_len r
    have h2 := nds_pos c.1
    simp only [List.length_cons, wszD]
    omega
theorem ndss_rev : ∀ (cs : List PyData) (l : Int), wszD (cs.reverse.map fun c => (c, l)) = ndss cs
  | [], _ => by simp [wszD, ndss]
  | c :: r, l => by
    rw [List.reverse_cons, List.map_append, wszD_app, ndss_rev r l]
    simp only [List.map_cons, List.map_nil, wszD, ndss]
    omega
def lvm : List (PyData × Int) → Int
  | [] => 0
  | c :: r => max (c.2 - 1 + (lev c.1 : Nat)) (lvm r)
theorem lvm_app : ∀ (a b : List (PyData × Int)), (∀ c ∈ b, 1 ≤ c.2) → lvm (a ++ b) = max (lvm a) (lvm b)
  | [], b, h => by
    have : 0 ≤ lvm b := by
      cases b with
      | nil => exact Int.le_refl _
      | cons c r =>
        have := h c List.mem_cons_self
        simp only [lvm]
        omega
    simp only [List.nil_append, lvm]
    omega
  | c :: r, b, h => by simp only [List.cons_append, lvm, lvm_app r b h]; omega
theorem lvm_rev : ∀ (cs : List PyData) (l : Int), 0 ≤ l → lvm (cs.reverse.map fun c => (c, l + 1)) = if cs = [] then 0 else l + (levs cs : Nat)
  | [], _, _ => by simp [lvm]
  | c :: r, l, h => by
    rw [List.reverse_cons, List.map_append, lvm_app _ _ (fun c hc => by
      simp only [List.map_cons, List.map_nil, List.mem_singleton] at hc
      rw [hc]
      show 1 ≤ l + 1
      omega), lvm_rev r l h, if_neg (List.cons_ne_nil _ _)]
    simp only [List.map_cons, List.map_nil, lvm, levs]
    by_cases e : r = []
    · subst e
      simp only [if_true, levs]
      omega
    · rw [if_neg e]
      omega
theorem lev_pos : ∀ d : PyData, 1 ≤ lev d
  | .tuple (_ :: r) => by simp only [lev]; split <;> omega
  | .tuple [] => by simp only [lev]; omega
  | .none => by simp only [lev]; omega
  | .bool _ => by simp only [lev]; omega
  | .int _ => by simp only [lev]; omega
  | .str _ => by simp only [lev]; omega
  | .list _ => by simp only [lev]; omega
  | .dict _ => by simp only [lev]; omega
/-- what check_form tells -/
def due (d : PyData) : Option PyData := match fb d with
  | some p => some p
  | none => if lev d ≤ 5 then none else some d
def spCheckG (K : PySem.W.Frag) (C : Addr) : Sp := fun vs H Q E => ∃ (G : Hp) (M : List (Addr × HO)) (v : V) (d : PyData), vs = [v] ∧ Sep G M H ∧ Dp K G v d ∧ Okd d ∧
  (due d = none → ∀ G' H', Same G G' → Sep G' M H' → Q .non H') ∧ (∀ p, due d = some p → ∀ u G1, Same G G1 → Dp K G1 u p → Rz G1 M C [("part", u)] E)
theorem ok_check_formG (T : Top K mg w) (pf : PySem.XExc.PF P T.x_file) {k : Nat} (G_is_part : FnOk P w K mg base CX0 (k + 1) T.a_is_part T.d_is_part ["part"] (spPartG K)) :
    FnOk P w K mg base (L2.CX P w) (k + 2) T.a_check_form T.d_check_form ["parts"] (spCheckG K T.C_BadForm) := by
  refine T.F_check_form.okX sc_check_form (fun vs H Q E h => ?_) (fun cdv A outer s H vs Q E hr h => ?_)
  · obtain ⟨G, M, v, d, rfl, _⟩ := h
    rfl
  · obtain ⟨G, M, v, d, rfl, S, hv, ok, q, rz⟩ := h
    refine ⟨_, (pss_cons (ps_set (i := 1) sc_check_form.nd rfl (.inl rfl) (pe_lst (pa_cons (pe_tup (pa_cons (xv 0) (pa_cons pe_int pa_nil))) pa_nil)))
      (pss_cons (ps_set (i := 2) sc_check_form.nd rfl (.inl rfl) pe_int)
      (pss_cons (xs_while (passes_of rfl) (xt_truK K (xv 1))
      (pss_cons (ps_asg (pe_bm0 PySem.F.plainAttrs_list PySem.F.slot_list_pop PySem.F.type_list_pop mt_pop (xv 1)) (pg_tupK K 2 (pgs_cons (pg_name (i := 3) sc_check_form.nd rfl (.inl rfl)) (pgs_cons (pg_name (i := 4) sc_check_form.nd rfl (.inl rfl)) pgs_nil))))
      (pss_cons (xs_if (pt_not (xt_truK K (pe_call G_is_part (hr.mono (by omega)) (by rfl) T.g_is_part T.F_is_part.kp T.b_is_part .nil pass0 (pa_cons (xv 3) pa_nil))))
      (pss_one (ps_raiseE (k := 0) rfl T.xcv_BadForm (T.x_BadForm P pf) (hr.mono (by omega)) (takes_of rfl rfl rfl rfl) (pa_cons (xv 3) pa_nil)))
      pss_nil)
      (xss_cut (xs_if (xt_cmp op_gtY (xv 4) (xv 2) (nomark _))
      (pss_one (ps_set (i := 2) sc_check_form.nd rfl (.inl rfl) (xv 4)))
      pss_nil)
      (pss_one (xs_if (PW.pt (xw_and (xt_cmp (op_neLK K hr.u190) (pe_ix (ix_k K) (xv 3) pe_int (fun _ _ => rfl)) pe_str (nomark _)) (pw_and1 (xt_cmp (op_neLK K hr.u190) (pe_ix (ix_k K) (xv 3) pe_int (fun _ _ => rfl)) pe_str (nomark _)))))
      (pss_one (ps_for (passes_of rfl) rfl (pi_range3 (by rfl) T.m_range (pa_cons (pe_op op_subY (pe_callB (cr_lenK K) (by rfl) T.m_len (by decide +kernel) (pa_cons (xv 3) pa_nil)) pe_int) (pa_cons pe_int (pa_cons (pe_un un_neg pe_int) pa_nil)))) (pg_name (i := 5) sc_check_form.nd rfl (.inl rfl))
      (pss_one (ps_expr (pe_bmK K PySem.F.plainAttrs_list PySem.F.slot_list_append PySem.F.type_list_append mt_append (xv 1) (pa_cons (pe_tup (pa_cons (pe_ix (ix_k K) (xv 3) (xv 5) (fun _ _ => rfl)) (pa_cons (pe_op op_addY (xv 4) pe_int) pa_nil))) pa_nil))))))
      pss_nil))))))
      (pss_one (xs_if (xt_cmp op_gtY (xv 2) (xe_globI (by rfl) T.v_MOST_LEVELS) (nomark _))
      (pss_one (ps_raiseE (k := 0) rfl T.xcv_BadForm (T.x_BadForm P pf) (hr.mono (by omega)) (takes_of rfl rfl rfl rfl) (pa_cons (xv 0) pa_nil)))
      pss_nil))))), ?_⟩
    refine ⟨sz, fun t nt => ⟨sz, fun L nL => ?_⟩⟩
    have S1 := S.newG (o := .tup [v, .int 1]) nt
    have s1 := S.grow (o := .tup [v, .int 1]) nt
    have S2 := S1.new (o := .lst [.ref t]) nL
    refine ⟨fun m σ H' => ∃ (y3 y4 y5 : Option V) (ds : Int) (G' : Hp) (ws : List V) (cs : List (PyData × Int)), σ = [some v, some (.ref L), some (.int ds), y3, y4, y5] ∧ Same G G' ∧ Sep G' ((L, .lst ws) :: M) H' ∧ Paired (WtD K G') ws cs ∧ 1 ≤ ds ∧ max ds (lvm cs) = (lev d : Nat) ∧ fbs (cs.reverse.map (·.1)) = fb d ∧ m = wszD cs ∧ m ≤ 40001,
      ⟨nds d, _, _, _, 1, _, [.ref t], [(d, 1)], rfl, s1, S2, .cons ⟨t, v, rfl, upd_same, dp_same s1 hv, ok, Int.le_refl _⟩ .nil, Int.le_refl _, ?_, ?_, by simp [wszD], by have := nds_le d; have := ok.wt; omega⟩, fun m σ H' h => ?_⟩
    · have := lev_pos d
      simp only [lvm]
      omega
    · show fbs [d] = fb d
      simp only [fbs]
      cases fb d <;> rfl
    obtain ⟨y3, y4, y5, ds, G', ws, cs, rfl, s3, S3, hw, hds, hlv, hfb, rfl, hm⟩ := h
    refine ⟨!ws.isEmpty, .inl ⟨ws, SqL.of S3.hd, rfl⟩, fun e => ?_, fun e => ?_⟩
    · rcases nil_or_snoc ws with rfl | ⟨wp, x, rfl⟩
      · exact nomatch e
      obtain ⟨cp, c, rfl, hwp, t1, u, rfl, ht1, hu, oku, l1⟩ := prd_unsnoc hw
      obtain ⟨dc, lc⟩ := c
      replace hu : Dp K G' u dc := hu
      replace oku : Okd dc := oku
      replace l1 : 1 ≤ lc := l1
      have S4 := S3.set (o' := .lst wp)
      have esz : wszD (cp ++ [(dc, lc)]) = wszD cp + nds dc := by rw [wszD_app]; simp [wszD]
      have hcs := nds_pos dc
      have efb : fbs (dc :: cp.reverse.map (·.1)) = fb d := by
        rw [← hfb, List.reverse_append]
        rfl
      have elv : max ds (max (lvm cp) (lc - 1 + (lev dc : Nat))) = (lev d : Nat) := by
        rw [← hlv, lvm_app _ _ (fun c hc => by rw [List.mem_singleton.mp hc]; exact l1)]
        simp only [lvm]
        omega
      -- part, level = waiting.pop()
      refine ⟨.inl ⟨rfl, _, SqL.of S3.hd⟩, L, wp ++ [.ref t1], .ref t1, rfl, rfl, S3.hd, by simp, ?_⟩
      rw [List.dropLast_concat]
      refine ⟨t1, _, rfl, SqT.of (S4.st ht1), rfl, _, _, rfl, _, _, rfl, rfl, ?_⟩
      refine ⟨G', _, u, dc, rfl, S4, dp_same S4.1 hu, (Nat.le_trans oku.wt (by decide)), fun G5 H5 s5 S5 => ⟨fun e2 => ?_, fun e2 => ?_⟩⟩
      · have e3 : partOk dc = false := by simpa using e2
        have hdue : due d = some dc := by
          unfold due
          rw [← efb]
          simp only [fbs, fb_bad e3]
        exact ⟨u, rfl, oku.rp (dp_same S5.1 (dp_same s5 hu)), fun dd nd => (rz dc hdue u G5 (s3.trans s5) (dp_same s5 hu)).cell [_] |>.now S5 dd nd⟩
      have e3 : partOk dc = true := by simpa using e2
      obtain ⟨xh, r, rfl, hhd, his, hget⟩ := part_at e3
      obtain ⟨p, pus, rfl, hp0, hpus⟩ := id (dp_tup hu)
      obtain ⟨xv, vs, rfl, hxv, hvs⟩ := dpa_cons hpus
      obtain rfl := dp_str hxv
      have vl := dpa_len hvs
      have hp := same_t s5 hp0
      have hvs5 := dpa_same s5 hvs
      have hwp5 : Paired (WtD K G5) wp cp := prd_imp (fun _ _ => WtD.same s5) hwp
      refine ⟨fun σ H6 => ∃ ds' : Int, ds' = max ds lc ∧ σ = [some v, some (.ref L), some (.int ds'), some (.ref p), some (.int lc), y5] ∧ H6 = H5, ⟨fun e => ⟨lc, by have : ds < lc := of_decide_eq_true e; omega, rfl, rfl⟩, fun e => ⟨ds, by have : ¬ ds < lc := of_decide_eq_false e; omega, rfl, rfl⟩⟩, fun σ H6 h => ?_⟩
      obtain ⟨ds', hds', rfl, rfl⟩ := h
      have h1 : SqT K H6 p (.str xh :: vs) := S5.t hp
      have at0 : atI (V.str xh :: vs) 0 = some (.str xh) := atI_nat (j := 0) rfl
      have stop : (xh = "is" ∨ xh = "get") → ∃ m', m' < wszD (cp ++ [(.tuple (.str xh :: r), lc)]) ∧ ∃ (y3 y4 y5' : Option V) (ds : Int) (G' : Hp) (ws : List V) (cs : List (PyData × Int)), ([some v, some (.ref L), some (.int ds'), some (.ref p), some (.int lc), y5] : List (Option V)) = [some v, some (.ref L), some (.int ds), y3, y4, y5'] ∧
          Same G G' ∧ Sep G' ((L, .lst ws) :: M) H6 ∧ Paired (WtD K G') ws cs ∧ 1 ≤ ds ∧ max ds (lvm cs) = (lev d : Nat) ∧ fbs (cs.reverse.map (·.1)) = fb d ∧ m' = wszD cs ∧ m' ≤ 40001 := fun hx => by
        obtain ⟨f1, f2⟩ := fb_leaf e3 hx
        rw [f2] at elv
        refine ⟨wszD cp, by omega, _, _, _, ds', G5, wp, cp, rfl, s3.trans s5, S5, hwp5, by omega, by omega, ?_, rfl, by omega⟩
        rw [← efb]
        simp only [fbs, f1]
      refine ⟨_, _, .inr h1, at0, fun e4 => ?_, fun e4 => ?_⟩
      · have n1 : xh ≠ "is" := of_decide_eq_false (by simpa using e4)
        refine ⟨_, _, .inr h1, at0, fun e5 => ?_, fun e5 => ?_⟩
        · have n2 : xh ≠ "get" := of_decide_eq_false (by simpa using e5)
          obtain ⟨f1, f2⟩ := fb_node e3 ⟨n1, n2⟩
          have r0 : r ≠ [] := by
            have : headN xh ≠ 0 := by omega
            rcases headN_some this with rfl | rfl | rfl | rfl | rfl
            · exact absurd rfl n1
            · exact absurd rfl n2
            · intro e; rw [e] at hhd; exact absurd hhd (by decide +kernel)
            · intro e; rw [e] at hhd; exact absurd hhd (by decide +kernel)
            · intro e; rw [e] at hhd; exact absurd hhd (by decide +kernel)
          have r3 : r.length ≤ 3 := by
            have : headN xh ≤ 4 := by unfold headN; (repeat' split) <;> omega
            omega
          rw [f2] at elv
          have nd : nds (.tuple (.str xh :: r)) = ndss r + 1 := by simp only [nds]
          refine ⟨_, .inr h1, 1, rfl, (vs.length : Int), 0, -1, vs.length, ?_, ?_, for_rangeC (lo := (vs.length : Int)) (c := -1) (n := vs.length) (fun i σ H' => ∃ (y5 : Option V) (G' : Hp) (ns : List V) (ms : List (PyData × Int)), σ = [some v, some (.ref L), some (.int ds'), some (.ref p), some (.int lc), y5] ∧
            Same G5 G' ∧ Sep G' ((L, .lst (wp ++ ns)) :: M) H' ∧ Paired (WtD K G') ns ms ∧ ms = (r.reverse.map fun k => (k, lc + 1)).take i) ?_ (fun i σ H' hi h => ?_) (fun σ H' h => ?_)⟩
          · have e1 : (((V.str xh :: vs).length : Nat) : Int) - 1 = vs.length := by rw [List.length_cons]; omega
            show [V.int ((((V.str xh :: vs).length : Nat) : Int) - 1), V.int 0, V.int (-1)] = _
            rw [e1]
          · have z := RgC.neg (i := (vs.length : Int)) (j := 0) (by omega) (by omega) (by omega) (by omega)
            have e1 : ((vs.length : Int) - 0).toNat = vs.length := by omega
            rw [e1] at z
            exact z
          · exact ⟨_, G5, [], [], rfl, Same.refl _, by rw [List.append_nil]; exact S5, .nil, rfl⟩
          · obtain ⟨y5, G6, ns, ms, rfl, s6, S6, hn2, rfl⟩ := h
            have hj : vs.length - 1 - i < vs.length := by omega
            have hx : vs[vs.length - 1 - i]? = some vs[vs.length - 1 - i] := List.getElem?_eq_getElem hj
            obtain ⟨kc, hkc, hkk⟩ := dpa_get hvs5 hx
            have hat : atI (V.str xh :: vs) ((vs.length : Int) + (i : Nat) * (-1)) = some vs[vs.length - 1 - i] := by
              have e1 : (vs.length : Int) + (i : Nat) * (-1) = ((vs.length - i : Nat) : Int) := by omega
              rw [e1]
              refine atI_nat ?_
              have e2 : vs.length - i = (vs.length - 1 - i) + 1 := by omega
              rw [e2, List.getElem?_cons_succ]
              exact hx
            have hnl := prd_len hn2
            have hml : ((r.reverse.map fun k => (k, lc + 1)).take i).length ≤ 3 := by
              rw [List.length_take]
              omega
            have hwl := prd_len hwp5
            have hcl := wszD_len cp
            refine ⟨.inl ⟨rfl, _, SqL.of S6.hd⟩, _, _, .inr (S6.t (same_t s6 hp)), hat, sz, fun d nd => ?_⟩
            have S7 := S6.newG (o := .tup [vs[vs.length - 1 - i], .int (lc + 1)]) nd
            have s7 := S6.grow (o := .tup [vs[vs.length - 1 - i], .int (lc + 1)]) nd
            refine ⟨L, _, _, rfl, rfl, S7.hd, ?_, ?_⟩
            · rw [List.length_append]
              exact smallL (by omega)
            · refine ⟨_, _, ns ++ [.ref d], _, rfl, s6.trans s7, by rw [← List.append_assoc]; exact S7.set, (prd_imp (fun _ _ => WtD.same s7) hn2).snoc (b := (kc, lc + 1)) ⟨d, _, rfl, upd_same, dp_same s7 (dp_same s6 hkk), oku.kid (List.mem_cons_of_mem _ (List.mem_of_getElem? hkc)), ?_⟩, ?_⟩
              · show 1 ≤ lc + 1
                omega
              · refine (XL.take_snoc ?_).symm
                rw [List.getElem?_map, List.getElem?_reverse (by omega)]
                have e3 : r.length - 1 - i = vs.length - 1 - i := by omega
                rw [e3, hkc]
                rfl
          · obtain ⟨y5, G6, ns, ms, rfl, s6, S6, hn2, rfl⟩ := h
            have e1 : (r.reverse.map fun k => (k, lc + 1)).take vs.length = r.reverse.map fun k => (k, lc + 1) := List.take_of_length_le (by simp; omega)
            rw [e1] at hn2
            have e2 : wszD (cp ++ r.reverse.map fun k => (k, lc + 1)) = wszD cp + ndss r := by rw [wszD_app, ndss_rev]
            refine ⟨wszD (cp ++ r.reverse.map fun k => (k, lc + 1)), by omega, _, _, _, ds', G6, _, _, rfl, (s3.trans s5).trans s6, S6, prd_app (prd_imp (fun _ _ => WtD.same s6) hwp5) hn2, by omega, ?_, ?_, rfl, by omega⟩
            · rw [lvm_app _ _ (fun c hc => by
                obtain ⟨k, _, rfl⟩ := List.mem_map.mp hc
                show 1 ≤ lc + 1
                omega), lvm_rev r lc (by omega), if_neg r0]
              omega
            · rw [← efb, List.reverse_append, List.map_append, fbs_app]
              have e5 : ((r.reverse.map fun k => (k, lc + 1)).reverse.map (·.1) : List PyData) = r := by
                rw [← List.map_reverse, List.reverse_reverse, List.map_map]
                exact List.map_id r
              rw [e5]
              simp only [fbs, f1]
              cases fbs r <;> rfl
        · exact stop (.inr (of_decide_eq_true (by simpa using e5)))
      · exact ⟨ff, fun _ => stop (.inl (of_decide_eq_true (by simpa using e4)))⟩
    · have w0 : ws = [] := by
        cases ws with
        | nil => rfl
        | cons _ _ => exact nomatch e
      subst w0
      cases hw
      have e1 : fb d = none := by rw [← hfb]; rfl
      have e2 : ds = (lev d : Nat) := by
        simp only [lvm] at hlv
        omega
      refine ⟨fun e3 => ?_, fun e3 => ?_⟩
      · have z : (5 : Int) < ds := of_decide_eq_true e3
        have hdue : due d = some d := by
          unfold due
          rw [e1]
          exact if_neg (by omega)
        exact ⟨v, rfl, ok.rp (dp_same S3.1 (dp_same s3 hv)), fun dd nd => (rz d hdue v G' s3 (dp_same s3 hv)).cell [_] |>.now S3 dd nd⟩
      · have z : ¬ (5 : Int) < ds := of_decide_eq_false e3
        have hdue : due d = none := by
          unfold due
          rw [e1]
          exact if_pos (by omega)
        exact q hdue _ _ (s3.trans S3.frzS) S3.frz

end
end K02
set_option Elab.async false
set_option linter.all false
set_option maxRecDepth 100000
set_option maxHeartbeats 4000000
namespace K02
open PySem PySem.Spec PyProof.Rows L2 XL
/-! ### dicts by name -/
def dk (ns : List Str) (e : Str → Int) : List (Key × V) := ns.map fun x => (Sum.inr x, V.int (e x))
theorem dk_keys (ns : List Str) (e : Str → Int) : (dk ns e).map (fun kv => kV kv.1) = ns.map V.str := by
  unfold dk
  rw [List.map_map]
  rfl
theorem dk_len (ns : List Str) (e : Str → Int) : (dk ns e).length = ns.length := List.length_map _
theorem dk_val {e : Str → Int} {x : Str} : ∀ {ns : List Str}, x ∈ ns → valV (dk ns e) (Sum.inr x) = some (.int (e x))
  | y :: r, h => by
    unfold dk valV
    rw [List.map_cons, List.find?_cons]
    by_cases hy : y = x
    · subst hy
      simp
    · have h2 : x ∈ r := by
        rcases List.mem_cons.mp h with h | h
        · exact absurd h.symm hy
        · exact h
      have := dk_val (e := e) h2
      unfold dk valV at this
      simp only [Sum.inr.injEq, hy, decide_false]
      exact this
theorem dk_none {e : Str → Int} {x : Str} : ∀ {ns : List Str}, x ∉ ns → valV (dk ns e) (Sum.inr x) = none
  | [], _ => rfl
  | y :: r, h => by
    unfold dk valV
    rw [List.map_cons, List.find?_cons]
    have hy : ¬ y = x := fun hy => h (by rw [hy]; exact List.mem_cons_self)
    have := dk_none (e := e) (ns := r) (x := x) fun h2 => h (List.mem_cons_of_mem _ h2)
    unfold dk valV at this
    simp only [Sum.inr.injEq, hy, decide_false]
    exact this
theorem dk_put {ns : List Str} {e : Str → Int} {x : Str} {i : Nat} (nd : ns.Nodup) (hx : ns[i]? = some x) : putK (dk (ns.take i) e) (Sum.inr x) (.int (e x)) = dk (ns.take (i + 1)) e := by
  have nin : x ∉ ns.take i := fun h => by
    rw [(take_pre hx).1, List.nodup_append] at nd
    exact nd.2.2 _ h _ List.mem_cons_self rfl
  rw [putK_new _ (dk_none nin), take_snoc hx]
  simp [dk]
def ups (e : Str → Int) (y : Str) (v : Int) : Str → Int := fun x => if x = y then v else e x
theorem dk_set {ns : List Str} {e : Str → Int} {y : Str} {v : Int} (hy : y ∈ ns) : putK (dk ns e) (Sum.inr y) (.int v) = dk ns (ups e y v) := by
  unfold putK
  rw [valV_any, dk_val hy, Option.isSome_some, if_pos rfl]
  unfold dk
  rw [List.map_map]
  refine List.map_congr_left fun x hx => ?_
  simp only [Function.comp_apply, Sum.inr.injEq, ups]
  by_cases h : x = y
  · rw [if_pos h, if_pos h]
  · rw [if_neg h, if_neg h]
theorem dk_congr {ns : List Str} {e e' : Str → Int} (h : ∀ x ∈ ns, e x = e' x) : dk ns e = dk ns e' := by
  unfold dk
  exact List.map_congr_left fun x hx => by rw [h x hx]
/-! ### shapes of texts -/
def txD (x : Str) : PyData := .tuple [.str "text", .tuple [.str "get", .str x]]
def coD (nn : List Str) : PyData := .tuple [.str "col", .tuple (nn.map txD)]
/-- col(text(get x), ..) -/
structure ShAt (K : PySem.W.Frag) (G : Hp) (v : V) (nn : List Str) : Prop where
  dp : Dp K G v (coD nn)
theorem sh_at {K : PySem.W.Frag} {G : Hp} {v : V} {nn : List Str} (h : Dp K G v (coD nn)) : ∃ a b us, v = .ref a ∧ SqT K G a [.str "col", .ref b] ∧ SqT K G b us ∧ DpAll K G us (nn.map txD) := by
  obtain ⟨a, xs, rfl, h1, h2⟩ := dp_tup h
  obtain ⟨x1, r1, rfl, h3, h4⟩ := dpa_cons h2
  obtain ⟨x2, r2, rfl, h5, h6⟩ := dpa_cons h4
  cases h6
  rw [dp_str h3] at h1
  obtain ⟨b, us, rfl, h7, h8⟩ := dp_tup h5
  exact ⟨a, b, us, rfl, h1, h7, h8⟩
theorem tx_at {K : PySem.W.Frag} {G : Hp} {v : V} {x : Str} (h : Dp K G v (txD x)) : ∃ a b, v = .ref a ∧ SqT K G a [.str "text", .ref b] ∧ SqT K G b [.str "get", .str x] := by
  obtain ⟨a, xs, rfl, h1, h2⟩ := dp_tup h
  obtain ⟨x1, r1, rfl, h3, h4⟩ := dpa_cons h2
  obtain ⟨x2, r2, rfl, h5, h6⟩ := dpa_cons h4
  cases h6
  rw [dp_str h3] at h1
  obtain ⟨b, us, rfl, h7, h8⟩ := dp_tup h5
  obtain ⟨y1, s1, rfl, g3, g4⟩ := dpa_cons h8
  obtain ⟨y2, s2, rfl, g5, g6⟩ := dpa_cons g4
  cases g6
  rw [dp_str g3, dp_str g5] at h7
  exact ⟨a, b, rfl, h1, h7⟩

/-! ### forms by name -/
inductive Gm where
  | is (n : Int)
  | get (x : Str)
  | sum (a b : Gm)
  | same (a b : Gm)
  | pick (a b c : Gm)
def Gm.dep : Gm → Nat
  | .is _ => 1
  | .get _ => 1
  | .sum a b => max a.dep b.dep + 1
  | .same a b => max a.dep b.dep + 1
  | .pick a b c => max a.dep (max b.dep c.dep) + 1
def Gm.val (e : Str → Int) : Gm → Int
  | .is n => n
  | .get x => e x
  | .sum a b => (a.val e + b.val e) % 10
  | .same a b => if a.val e = b.val e then 1 else 0
  | .pick a b c => if a.val e = 0 then c.val e else b.val e
def Gm.ok (ns : List Str) : Gm → Prop
  | .is n => 0 ≤ n ∧ n ≤ 9
  | .get x => x ∈ ns
  | .sum a b => a.ok ns ∧ b.ok ns
  | .same a b => a.ok ns ∧ b.ok ns
  | .pick a b c => a.ok ns ∧ b.ok ns ∧ c.ok ns
theorem Gm.dep_pos (f : Gm) : 0 < f.dep := by cases f <;> simp [Gm.dep]
theorem Gm.val_congr {ns : List Str} {e e' : Str → Int} (h : ∀ x ∈ ns, e x = e' x) : ∀ f : Gm, f.ok ns → f.val e = f.val e'
  | .is n, _ => rfl
  | .get x, ok => h x ok
  | .sum a b, ok => by rw [Gm.val, Gm.val, Gm.val_congr h a ok.1, Gm.val_congr h b ok.2]
  | .same a b, ok => by rw [Gm.val, Gm.val, Gm.val_congr h a ok.1, Gm.val_congr h b ok.2]
  | .pick a b c, ok => by rw [Gm.val, Gm.val, Gm.val_congr h a ok.1, Gm.val_congr h b ok.2.1, Gm.val_congr h c ok.2.2]
theorem Gm.val_ok {ns : List Str} {e : Str → Int} (h : ∀ x ∈ ns, 0 ≤ e x ∧ e x ≤ 9) : ∀ f : Gm, f.ok ns → 0 ≤ f.val e ∧ f.val e ≤ 9
  | .is n, ok => ok
  | .get x, ok => h x ok
  | .sum a b, _ => by rw [Gm.val]; omega
  | .same a b, _ => by rw [Gm.val]; split <;> omega
  | .pick a b c, ok => by
    rw [Gm.val]
    split
    · exact Gm.val_ok h c ok.2.2
    · exact Gm.val_ok h b ok.2.1
inductive GmAt (K : PySem.W.Frag) (G : Hp) : V → Gm → Prop where
  | is {p : Addr} {n : Int} (h : SqT K G p [.str "is", .int n]) : GmAt K G (.ref p) (.is n)
  | get {p : Addr} {x : Str} (h : SqT K G p [.str "get", .str x]) : GmAt K G (.ref p) (.get x)
  | sum {p : Addr} {u v : V} {a b : Gm} (h : SqT K G p [.str "sum", u, v]) (h2 : GmAt K G u a) (h3 : GmAt K G v b) : GmAt K G (.ref p) (.sum a b)
  | same {p : Addr} {u v : V} {a b : Gm} (h : SqT K G p [.str "same", u, v]) (h2 : GmAt K G u a) (h3 : GmAt K G v b) : GmAt K G (.ref p) (.same a b)
  | pick {p : Addr} {u v w : V} {a b c : Gm} (h : SqT K G p [.str "pick", u, v, w]) (h2 : GmAt K G u a) (h3 : GmAt K G v b) (h4 : GmAt K G w c) : GmAt K G (.ref p) (.pick a b c)
theorem GmAt.same' {K : PySem.W.Frag} {G G' : Hp} (e : Same G G') {v : V} {f : Gm} (h : GmAt K G v f) : GmAt K G' v f := by
  induction h with
  | is h => exact .is (same_t e h)
  | get h => exact .get (same_t e h)
  | sum h _ _ h2 h3 => exact .sum (same_t e h) h2 h3
  | same h _ _ h2 h3 => exact .same (same_t e h) h2 h3
  | pick h _ _ _ h2 h3 h4 => exact .pick (same_t e h) h2 h3 h4
theorem wd {a b : Str} {A : Prop} (h : decide (a = b) = true) (n : decide (a = b) = false := by decide +kernel) : A := by rw [n] at h; cases h
theorem we {a : Str} {A : Prop} (h : decide (a = a) = false) : A := by rw [decide_eq_true rfl] at h; cases h
/-- a dict by name at an address -/
def DkAt (H : Hp) (d : Addr) (ns : List Str) (e : Str → Int) : Prop := H d = some (.dK (dk ns e))
theorem dk_get {H : Hp} {d : Addr} {ns : List Str} {e : Str → Int} {x : Str} (h : H d = some (.dK (dk ns e))) (hx : x ∈ ns) : DGet H d (.str x) (some (.int (e x))) := by
  rw [← dk_val hx]
  exact DGet.k (k := Sum.inr x) h

/-! ### the parts of a form -/
def Gm.kids : Gm → List Gm
  | .is _ => []
  | .get _ => []
  | .sum a b => [a, b]
  | .same a b => [a, b]
  | .pick a b c => [a, b, c]
theorem GmAt.node {K : PySem.W.Frag} {G : Hp} {v : V} {f : Gm} (h : GmAt K G v f) : (∃ p n, v = .ref p ∧ SqT K G p [.str "is", .int n] ∧ f = .is n) ∨ (∃ p x, v = .ref p ∧ SqT K G p [.str "get", .str x] ∧ f = .get x) ∨
    ∃ (p : Addr) (u : Str) (vs : List V), v = .ref p ∧ SqT K G p (.str u :: vs) ∧ Paired (GmAt K G) vs f.kids ∧ u ≠ "is" ∧ u ≠ "get" ∧ f.kids ≠ [] ∧ f.kids.length ≤ 3 ∧ ∀ c ∈ f.kids, c.dep < f.dep := by
  cases h with
  | is h => exact .inl ⟨_, _, rfl, h, rfl⟩
  | get h => exact .inr (.inl ⟨_, _, rfl, h, rfl⟩)
  | sum h h1 h2 =>
    refine .inr (.inr ⟨_, _, _, rfl, h, .cons h1 (.cons h2 .nil), by decide +kernel, by decide +kernel, by simp [Gm.kids], by simp [Gm.kids], fun c hc => ?_⟩)
    simp only [Gm.kids, List.mem_cons, List.not_mem_nil, or_false] at hc
    rcases hc with rfl | rfl <;> simp only [Gm.dep] <;> omega
  | same h h1 h2 =>
    refine .inr (.inr ⟨_, _, _, rfl, h, .cons h1 (.cons h2 .nil), by decide +kernel, by decide +kernel, by simp [Gm.kids], by simp [Gm.kids], fun c hc => ?_⟩)
    simp only [Gm.kids, List.mem_cons, List.not_mem_nil, or_false] at hc
    rcases hc with rfl | rfl <;> simp only [Gm.dep] <;> omega
  | pick h h1 h2 h3 =>
    refine .inr (.inr ⟨_, _, _, rfl, h, .cons h1 (.cons h2 (.cons h3 .nil)), by decide +kernel, by decide +kernel, by simp [Gm.kids], by simp [Gm.kids], fun c hc => ?_⟩)
    simp only [Gm.kids, List.mem_cons, List.not_mem_nil, or_false] at hc
    rcases hc with rfl | rfl | rfl <;> simp only [Gm.dep] <;> omega
theorem Gm.kids_ok {ns : List Str} {f : Gm} (h : f.ok ns) : ∀ c ∈ f.kids, c.ok ns := fun c hc => by
  cases f with
  | is n => exact nomatch hc
  | get x => exact nomatch hc
  | sum a b =>
    simp only [Gm.kids, List.mem_cons, List.not_mem_nil, or_false] at hc
    rcases hc with rfl | rfl
    · exact h.1
    · exact h.2
  | same a b =>
    simp only [Gm.kids, List.mem_cons, List.not_mem_nil, or_false] at hc
    rcases hc with rfl | rfl
    · exact h.1
    · exact h.2
  | pick a b c =>
    simp only [Gm.kids, List.mem_cons, List.not_mem_nil, or_false] at hc
    rcases hc with rfl | rfl | rfl
    · exact h.1
    · exact h.2.1
    · exact h.2.2
theorem cutT1 (x : V) (vs : List V) : cutV (x :: vs) (some 1) none = vs := by
  unfold cutV
  rw [show HT.sIx (x :: vs).length 0 (some 1) = min 1 (x :: vs).length from HT.sIx_nat _ 0 1, HT.sIx_none]
  rw [show min 1 (x :: vs).length = 1 by rw [List.length_cons]; omega]
  show (List.take ((x :: vs).length - 1) vs) = vs
  rw [List.length_cons, Nat.add_sub_cancel, List.take_length]
def Gm.word : Gm → Str
  | .is _ => "is"
  | .get _ => "get"
  | .sum _ _ => "sum"
  | .same _ _ => "same"
  | .pick _ _ _ => "pick"
theorem GmAt.nodeW {K : PySem.W.Frag} {G : Hp} {v : V} {f : Gm} (h : GmAt K G v f) : (∃ p n, v = .ref p ∧ SqT K G p [.str "is", .int n] ∧ f = .is n) ∨ (∃ p x, v = .ref p ∧ SqT K G p [.str "get", .str x] ∧ f = .get x) ∨
    ∃ (p : Addr) (vs : List V), v = .ref p ∧ SqT K G p (.str f.word :: vs) ∧ Paired (GmAt K G) vs f.kids ∧ f.word ≠ "is" ∧ f.word ≠ "get" ∧ f.kids ≠ [] ∧ f.kids.length ≤ 3 ∧ ∀ c ∈ f.kids, c.dep < f.dep := by
  cases h with
  | is h => exact .inl ⟨_, _, rfl, h, rfl⟩
  | get h => exact .inr (.inl ⟨_, _, rfl, h, rfl⟩)
  | sum h h1 h2 =>
    refine .inr (.inr ⟨_, _, rfl, h, .cons h1 (.cons h2 .nil), show ("sum" : Str) ≠ "is" by decide +kernel, show ("sum" : Str) ≠ "get" by decide +kernel, by simp [Gm.kids], by simp [Gm.kids], fun c hc => ?_⟩)
    simp only [Gm.kids, List.mem_cons, List.not_mem_nil, or_false] at hc
    rcases hc with rfl | rfl <;> simp only [Gm.dep] <;> omega
  | same h h1 h2 =>
    refine .inr (.inr ⟨_, _, rfl, h, .cons h1 (.cons h2 .nil), show ("same" : Str) ≠ "is" by decide +kernel, show ("same" : Str) ≠ "get" by decide +kernel, by simp [Gm.kids], by simp [Gm.kids], fun c hc => ?_⟩)
    simp only [Gm.kids, List.mem_cons, List.not_mem_nil, or_false] at hc
    rcases hc with rfl | rfl <;> simp only [Gm.dep] <;> omega
  | pick h h1 h2 h3 =>
    refine .inr (.inr ⟨_, _, rfl, h, .cons h1 (.cons h2 (.cons h3 .nil)), show ("pick" : Str) ≠ "is" by decide +kernel, show ("pick" : Str) ≠ "get" by decide +kernel, by simp [Gm.kids], by simp [Gm.kids], fun c hc => ?_⟩)
    simp only [Gm.kids, List.mem_cons, List.not_mem_nil, or_false] at hc
    rcases hc with rfl | rfl | rfl <;> simp only [Gm.dep] <;> omega
theorem inS {x : Str} (xs : List Str) : inV (.str x) (xs.map V.str) = decide (x ∈ xs) := by
  unfold inV
  induction xs with
  | nil => rfl
  | cons y r ih =>
    rw [List.map_cons, List.any_cons, ih]
    show ((y == x) || decide (x ∈ r)) = decide (x ∈ y :: r)
    by_cases e : x = y
    · subst e; simp
    · have e2 : ¬ y = x := fun q => e q.symm
      simp [e, e2]
theorem flS (xs : List Str) : (xs.map V.str).all flatV = true := by
  rw [List.all_eq_true]
  intro x hx
  obtain ⟨n, _, rfl⟩ := List.mem_map.mp hx
  rfl

section
variable {P : Program} {w : World} {K : PySem.W.Frag} {mg : Str → Option Value} {base : Heap}
theorem fn_false39 {P : Program} {w : World} {K : PySem.W.Frag} {mg : Str → Option Value} {base : Heap} {CX : CXT} {k : Nat} {f : Addr} {fd : FuncData} {ps : List Str} {sp : Sp} (h : ∀ vs H Q E, sp vs H Q E → False) : FnOk P w K mg base CX k f fd ps sp :=
  ⟨fun vs H Q E q => (h vs H Q E q).elim, fun A outer s H args us vs Q E hr he hb hv q => (h vs H Q E q).elim⟩
def spForm (K : PySem.W.Frag) (d : Nat) : Sp := fun vs H Q _ => ∃ (G : Hp) (M : List (Addr × HO)) (b : Addr) (o : HO) (l : Addr) (ns : List Str) (n : Int), vs = [.ref b, .ref l, .int n] ∧ Sep G ((b, o) :: M) H ∧ Bag G o ∧ G l = some (.lst (ns.map V.str)) ∧ 0 < ns.length ∧ ns.length ≤ 100 ∧ 1 ≤ n ∧ n ≤ d ∧
  ∀ (v : V) (f : Gm) (o' : HO) (G' H' : Hp), Same G G' → GmAt K G' v f → f.ok ns → f.dep ≤ n → Bag G' o' → Sep G' ((b, o') :: M) H' → Q v H'
theorem ok_form (T : Top K mg w) {k : Nat} (G_pick : FnOk P w K mg base CX0 k T.a_pick T.d_pick ["_law_bag_here", "_law_many"] spPick) (G_choice : FnOk P w K mg base CX0 k T.a_choice T.d_choice ["_law_bag_here", "_law_things"] (spChoice K)) :
    ∀ d : Nat, FnOk P w K mg base CX0 (k + 1 + d) T.a_form T.d_form ["_law_bag_here", "_law_readable", "_law_levels_here"] (spForm K d)
  | 0 => fn_false39 fun vs H Q E h => by
    obtain ⟨G, M, b, o, l, xs, n, _, _, _, _, _, _, h1, h2, _⟩ := h
    omega
  | d + 1 => by
    have G_form := ok_form T G_pick G_choice d
    refine T.F_form.ok sc_form (fun vs H Q E h => ?_) (fun cdv A outer s H vs Q E hr h => ?_)
    · obtain ⟨G, M, b, o, l, xs, n, rfl, _⟩ := h
      rfl
    · obtain ⟨G, M, b, o, l, ns, n, rfl, S, B, hl, x0, x1, n1, n2, q⟩ := h
      have hr : Room (k + 1 + d) (A.deeper (envOfC (Str.ofString "_law_form") (defScope s_form) s.heap.objs.size T.a_form cdv)) := hr
      refine ⟨_, (pss_cons (ps_set (i := 3) sc_form.nd rfl (.inl rfl) (pe_call G_pick (hr.mono (by omega)) (by rfl) T.g_pick T.F_pick.kp T.b_pick .nil pass0 (pa_cons (xv 0) (pa_cons pe_int pa_nil))))
      (pss_cons (xs_if (PW.pt (xw_or (xt_cmp op_leY (xv 2) pe_int (nomark _)) (pw_or1 (xt_cmp op_ltY (xv 3) pe_int (nomark _)))))
      (pss_cons (xs_if (PW.pt (xw_or (pt_not (xt_truK K (xv 1))) (pw_or1 (PW.pt (xw_and (xt_cmp (op_eqLK K hr.u190) (xv 3) pe_int (nomark _)) (pw_and1 (xt_cmp (op_eqLK K hr.u190) (pe_call G_pick (hr.mono (by omega)) (by rfl) T.g_pick T.F_pick.kp T.b_pick .nil pass0 (pa_cons (xv 0) (pa_cons pe_int pa_nil))) pe_int (nomark _))))))))
      (pss_one (ps_ret (pe_tup (pa_cons pe_str (pa_cons (pe_call G_pick (hr.mono (by omega)) (by rfl) T.g_pick T.F_pick.kp T.b_pick .nil pass0 (pa_cons (xv 0) (pa_cons pe_int pa_nil))) pa_nil)))))
      pss_nil)
      (pss_one (ps_ret (pe_tup (pa_cons pe_str (pa_cons (pe_call G_choice (hr.mono (by omega)) (by rfl) T.g_choice T.F_choice.kp T.b_choice .nil pass0 (pa_cons (xv 0) (pa_cons (xv 1) pa_nil))) pa_nil))))))
      pss_nil)
      (pss_cons (ps_set (i := 4) sc_form.nd rfl (.inl rfl) (pe_call G_form (hr.mono (by omega)) (by rfl) T.g_form T.F_form.kp T.b_form .nil pass0 (pa_cons (xv 0) (pa_cons (xv 1) (pa_cons (pe_op op_subY (xv 2) pe_int) pa_nil)))))
      (pss_cons (ps_set (i := 5) sc_form.nd rfl (.inl rfl) (pe_call G_form (hr.mono (by omega)) (by rfl) T.g_form T.F_form.kp T.b_form .nil pass0 (pa_cons (xv 0) (pa_cons (xv 1) (pa_cons (pe_op op_subY (xv 2) pe_int) pa_nil)))))
      (pss_cons (xs_if (xt_cmp op_ltY (xv 3) pe_int (nomark _))
      (pss_one (ps_ret (pe_tup (pa_cons (pe_ix (ix_k K) (pe_lst (pa_cons pe_str (pa_cons pe_str (pa_cons pe_str pa_nil)))) (pe_op op_subY (xv 3) pe_int) (fun _ _ => rfl)) (pa_cons (xv 4) (pa_cons (xv 5) pa_nil))))))
      pss_nil)
      (pss_one (ps_ret (pe_tup (pa_cons pe_str (pa_cons (xv 4) (pa_cons (xv 5) (pa_cons (pe_call G_form (hr.mono (by omega)) (by rfl) T.g_form T.F_form.kp T.b_form .nil pass0 (pa_cons (xv 0) (pa_cons (xv 1) (pa_cons (pe_op op_subY (xv 2) pe_int) pa_nil)))) pa_nil)))))))))))), ?_⟩
      have nml : (ns.map V.str).length = ns.length := List.length_map _
      refine ⟨G, M, b, o, 8, rfl, S, B, by decide, by decide, fun w1 o1 H1 w0 w8 B1 S1 => ?_⟩
      have isQ : ∀ o2 H2, Bag G o2 → Sep G ((b, o2) :: M) H2 → ∀ r : Int, 0 ≤ r → r < 10 → ∀ t, H2 t = none → Q (.ref t) (upd H2 t (.tup [.str "is", .int r])) := fun o2 H2 B2 S2 r r0 r1 t nt =>
        q _ (.is r) o2 _ _ (S2.grow nt) (.is (SqT.of upd_same)) ⟨r0, by omega⟩ n1 (B2.same (S2.grow nt)) (S2.newG nt)
      refine ⟨fun e1 => ⟨fun _ => ?_, tt⟩, fun e1 => ⟨fun e2 => ?_, fun e2 => ?_⟩⟩
      rotate_left 2
      · have n2' : ¬ n ≤ 1 := of_decide_eq_false e1
        have w3 : ¬ w1 < 3 := of_decide_eq_false e2
        refine ⟨G, M, b, o1, l, ns, n - 1, rfl, S1, B1, hl, x0, x1, by omega, by omega, fun v1 f1 o2 G2 H2 s2 hf1 ok1 d1 B2 S2 => ?_⟩
        refine ⟨G2, M, b, o2, l, ns, n - 1, rfl, S2, B2, s2 _ _ hl, x0, x1, by omega, by omega, fun v2 f2 o3 G3 H3 s3 hf2 ok2 d2 B3 S3 => ⟨fun e3 => ?_, fun e3 => ?_⟩⟩
        · have w6 : w1 < 6 := of_decide_eq_true e3
          refine ⟨sz, fun t0 nt0 => ?_⟩
          have S4 := S3.newG (o := .lst [.str "sum", .str "sum", .str "same"]) nt0
          have s4 := S3.grow (o := .lst [.str "sum", .str "sum", .str "same"]) nt0
          obtain rfl | rfl | rfl : w1 = 3 ∨ w1 = 4 ∨ w1 = 5 := by omega
          · refine ⟨_, _, .inl (SqL.of upd_same), rfl, sz, fun t nt => ?_⟩
            have s5 := s4.trans (S4.grow (o := .tup [.str "sum", v1, v2]) nt)
            exact q _ (.sum f1 f2) o3 _ _ (s2.trans (s3.trans s5)) (.sum (SqT.of upd_same) (hf1.same' (s3.trans s5)) (hf2.same' s5)) ⟨ok1, ok2⟩ (by simp only [Gm.dep]; omega) (B3.same s5) (S4.newG nt)
          · refine ⟨_, _, .inl (SqL.of upd_same), rfl, sz, fun t nt => ?_⟩
            have s5 := s4.trans (S4.grow (o := .tup [.str "sum", v1, v2]) nt)
            exact q _ (.sum f1 f2) o3 _ _ (s2.trans (s3.trans s5)) (.sum (SqT.of upd_same) (hf1.same' (s3.trans s5)) (hf2.same' s5)) ⟨ok1, ok2⟩ (by simp only [Gm.dep]; omega) (B3.same s5) (S4.newG nt)
          · refine ⟨_, _, .inl (SqL.of upd_same), rfl, sz, fun t nt => ?_⟩
            have s5 := s4.trans (S4.grow (o := .tup [.str "same", v1, v2]) nt)
            exact q _ (.same f1 f2) o3 _ _ (s2.trans (s3.trans s5)) (.same (SqT.of upd_same) (hf1.same' (s3.trans s5)) (hf2.same' s5)) ⟨ok1, ok2⟩ (by simp only [Gm.dep]; omega) (B3.same s5) (S4.newG nt)
        · refine ⟨G3, M, b, o3, l, ns, n - 1, rfl, S3, B3, (s2.trans s3) _ _ hl, x0, x1, by omega, by omega, fun v3 f3 o4 G4 H4 s4 hf3 ok3 d3 B4 S4 => ⟨sz, fun t nt => ?_⟩⟩
          have s5 := S4.grow (o := .tup [.str "pick", v1, v2, v3]) nt
          exact q _ (.pick f1 f2 f3) o4 _ _ (s2.trans (s3.trans (s4.trans s5))) (.pick (SqT.of upd_same) (hf1.same' (s3.trans (s4.trans s5))) (hf2.same' (s4.trans s5)) (hf3.same' s5)) ⟨ok1, ok2, ok3⟩ (by simp only [Gm.dep]; omega) (B4.same s5) (S4.newG nt)
      all_goals
        have getQ : ∀ o2 H2, Bag G o2 → Sep G ((b, o2) :: M) H2 → ∀ v, v ∈ ns.map V.str → ∀ t, H2 t = none → Q (.ref t) (upd H2 t (.tup [.str "get", v])) := fun o2 H2 B2 S2 v hv t nt => by
          obtain ⟨z, hz, rfl⟩ := List.mem_map.mp hv
          exact q _ (.get z) o2 _ _ (S2.grow nt) (.get (SqT.of upd_same)) hz n1 (B2.same (S2.grow nt)) (S2.newG nt)
        have ne : (!!(ns.map V.str).isEmpty) = false := by
          cases ns with
          | nil => simp at x0
          | cons _ _ => rfl
        refine ⟨!(ns.map V.str).isEmpty, .inl ⟨_, SqL.of (S1.st hl), rfl⟩, fun e => absurd e (by rw [ne]; decide), fun _ => ⟨fun _ => ?_, fun _ => ⟨ff, fun _ => ?_⟩⟩⟩
        · refine ⟨G, M, b, o1, 2, rfl, S1, B1, by decide, by decide, fun r2 o2 H2 _ _ B2 S2 => ⟨fun _ => ?_, fun _ => ?_⟩⟩
          · exact ⟨G, M, b, o2, 10, rfl, S2, B2, by decide, by decide, fun r3 o3 H3 r30 r31 B3 S3 => ⟨sz, fun t nt => isQ o3 H3 B3 S3 r3 r30 r31 t nt⟩⟩
          · exact ⟨G, M, b, o2, l, _, rfl, S2, B2, SqL.of hl, by omega, by omega, fun v o3 H3 hv B3 S3 => ⟨sz, fun t nt => getQ o3 H3 B3 S3 v hv t nt⟩⟩
        · exact ⟨G, M, b, o1, l, _, rfl, S1, B1, SqL.of hl, by omega, by omega, fun v o3 H3 hv B3 S3 => ⟨sz, fun t nt => getQ o3 H3 B3 S3 v hv t nt⟩⟩

end
end K02
set_option Elab.async false
set_option linter.all false
set_option maxRecDepth 100000
set_option maxHeartbeats 4000000
namespace K02
open PySem PySem.Spec PyProof.Rows L2 XL
section
variable {P : Program} {w : World} {K : PySem.W.Frag} {mg : Str → Option Value} {base : Heap}
/-! ### levels and number of parts -/
def Gm.cnt : Gm → Nat
  | .is _ => 1
  | .get _ => 1
  | .sum a b => 1 + (a.cnt + b.cnt)
  | .same a b => 1 + (a.cnt + b.cnt)
  | .pick a b c => 1 + (a.cnt + (b.cnt + c.cnt))
def depL : List Gm → Nat
  | [] => 0
  | c :: r => max c.dep (depL r)
def cntL : List Gm → Nat
  | [] => 0
  | c :: r => c.cnt + cntL r
theorem Gm.dep_kids {f : Gm} (h : f.kids ≠ []) : f.dep = depL f.kids + 1 := by
  cases f with
  | is n => exact absurd rfl h
  | get x => exact absurd rfl h
  | sum a b => simp only [Gm.dep, Gm.kids, depL]; omega
  | same a b => simp only [Gm.dep, Gm.kids, depL]; omega
  | pick a b c => simp only [Gm.dep, Gm.kids, depL]; omega
theorem Gm.cnt_kids {f : Gm} (h : f.kids ≠ []) : f.cnt = 1 + cntL f.kids := by
  cases f with
  | is n => exact absurd rfl h
  | get x => exact absurd rfl h
  | sum a b => simp only [Gm.cnt, Gm.kids, cntL]; omega
  | same a b => simp only [Gm.cnt, Gm.kids, cntL]; omega
  | pick a b c => simp only [Gm.cnt, Gm.kids, cntL]; omega
theorem depL_app : ∀ (a b : List Gm), depL (a ++ b) = max (depL a) (depL b)
  | [], b => by simp [depL]
  | c :: r, b => by simp only [List.cons_append, depL, depL_app r b]; omega
theorem cntL_app : ∀ (a b : List Gm), cntL (a ++ b) = cntL a + cntL b
  | [], b => by simp [cntL]
  | c :: r, b => by simp only [List.cons_append, cntL, cntL_app r b]; omega
theorem Gm.cnt_pos (f : Gm) : 0 < f.cnt := by cases f <;> simp only [Gm.cnt] <;> omega
theorem Gm.cnt_le : ∀ f : Gm, f.cnt < 4 ^ f.dep
  | .is _ => by simp [Gm.cnt, Gm.dep]
  | .get _ => by simp [Gm.cnt, Gm.dep]
  | .sum a b => by
    have h1 := a.cnt_le
    have h2 := b.cnt_le
    have h3 : 4 ^ a.dep ≤ 4 ^ max a.dep b.dep := Nat.pow_le_pow_right (by decide) (by omega)
    have h4 : 4 ^ b.dep ≤ 4 ^ max a.dep b.dep := Nat.pow_le_pow_right (by decide) (by omega)
    have h5 : 1 ≤ 4 ^ max a.dep b.dep := Nat.one_le_pow _ _ (by decide)
    simp only [Gm.cnt, Gm.dep, Nat.pow_succ]
    omega
  | .same a b => by
    have h1 := a.cnt_le
    have h2 := b.cnt_le
    have h3 : 4 ^ a.dep ≤ 4 ^ max a.dep b.dep := Nat.pow_le_pow_right (by decide) (by omega)
    have h4 : 4 ^ b.dep ≤ 4 ^ max a.dep b.dep := Nat.pow_le_pow_right (by decide) (by omega)
    have h5 : 1 ≤ 4 ^ max a.dep b.dep := Nat.one_le_pow _ _ (by decide)
    simp only [Gm.cnt, Gm.dep, Nat.pow_succ]
    omega
  | .pick a b c => by
    have h1 := a.cnt_le
    have h2 := b.cnt_le
    have h6 := c.cnt_le
    have h3 : 4 ^ a.dep ≤ 4 ^ max a.dep (max b.dep c.dep) := Nat.pow_le_pow_right (by decide) (by omega)
    have h4 : 4 ^ b.dep ≤ 4 ^ max a.dep (max b.dep c.dep) := Nat.pow_le_pow_right (by decide) (by omega)
    have h7 : 4 ^ c.dep ≤ 4 ^ max a.dep (max b.dep c.dep) := Nat.pow_le_pow_right (by decide) (by omega)
    have h8 : (4 : Nat) ^ 1 ≤ 4 ^ max a.dep (max b.dep c.dep) := Nat.pow_le_pow_right (by decide) (by have := a.dep_pos; omega)
    simp only [Nat.pow_one] at h8
    show 1 + (a.cnt + (b.cnt + c.cnt)) < 4 ^ (max a.dep (max b.dep c.dep) + 1)
    rw [Nat.pow_succ]
    omega
/-- the parts behind the word -/
theorem tail_ok {K : PySem.W.Frag} {G H : Hp} {M : List (Addr × HO)} {p : Addr} {u : Str} {vs : List V} (S : Sep G M H) (hp : SqT K G p (.str u :: vs)) : ¬ (HT.sIx (V.str u :: vs).length 0 (some 1) = 0 ∧ HT.sIx (V.str u :: vs).length (V.str u :: vs).length none = (V.str u :: vs).length) := by
  rintro ⟨z, _⟩
  rw [show HT.sIx (V.str u :: vs).length 0 (some 1) = min 1 (V.str u :: vs).length from HT.sIx_nat _ 0 1, List.length_cons] at z
  omega
def spCnt (K : PySem.W.Frag) (d : Nat) : Sp := fun vs H Q _ => ∃ (G : Hp) (M : List (Addr × HO)) (v : V) (f : Gm), vs = [v] ∧ Sep G M H ∧ GmAt K G v f ∧ f.dep ≤ d ∧ ∀ G' H', Same G G' → Sep G' M H' → Q (.int (f.cnt : Nat)) H'
theorem sum_cnt : ∀ l : List Gm, (l.map fun c => (c.cnt : Int)).sum = (cntL l : Nat)
  | [] => rfl
  | c :: r => by
    rw [List.map_cons, List.sum_cons, sum_cnt r]
    simp only [cntL]
    omega
theorem ok_count (T : Top K mg w) : ∀ d : Nat, FnOk P w K mg base CX0 (d + 1) T.a_count T.d_count ["_law_parts"] (spCnt K d)
  | 0 => fn_false39 fun vs H Q E h => by
    obtain ⟨G, M, v, f, _, _, _, hd, _⟩ := h
    have := f.dep_pos
    omega
  | d + 1 => by
    have G_count := ok_count T d
    refine T.F_count.ok sc_count (fun vs H Q E h => ?_) (fun cdv A outer s H vs Q E hr h => ?_)
    · obtain ⟨G, M, v, f, rfl, _⟩ := h
      rfl
    · obtain ⟨G, M, v, f, rfl, S, hf, hd, q⟩ := h
      refine ⟨_, (pss_cons (xs_if (PW.pt (xw_or (xt_cmp (op_eqLK K hr.u190) (pe_ix (ix_k K) (xv 0) pe_int (fun _ _ => rfl)) pe_str (nomark _)) (pw_or1 (xt_cmp (op_eqLK K hr.u190) (pe_ix (ix_k K) (xv 0) pe_int (fun _ _ => rfl)) pe_str (nomark _)))))
      (pss_one (ps_ret pe_int))
      pss_nil)
      (pss_one (ps_ret (pe_op op_addY pe_int (pe_callB (cr_sumK K rfl) (by rfl) T.m_sum (by decide +kernel) (pa_cons (pe_lc (own := [("_law_part", 1)]) (by rfl) sc_count.nd (pi_tupK K (pe_slice sl_tup (xv 0) (po_some pe_int) po_none)) (blkOk_by (N := ["_law_parts", "_law_part"]) (sc := defScope s_count) (by decide +kernel)) (fun _ _ _ _ _ => (pg_name (i := 1) sc_count.nd rfl (.inl rfl))) (fun _ _ _ _ _ => pts_nil) (fun _ _ _ _ _ => (pe_call G_count (hr.mono (by omega)) (by rfl) T.g_count T.F_count.kp T.b_count .nil pass0 (pa_cons (xv 1) pa_nil)))) pa_nil)))))), ?_⟩
      rcases hf.node with ⟨p, n, rfl, hp, rfl⟩ | ⟨p, x, rfl, hp, rfl⟩ | ⟨p, u, vs, rfl, hp, hk, u1, u2, kne, kl, kd⟩
      · have h1 := S.t hp
        exact ⟨_, _, .inr h1, rfl, fun _ => ⟨fun _ => q _ _ (Same.refl _) S, tt⟩, we⟩
      · have h1 := S.t hp
        exact ⟨_, _, .inr h1, rfl, fun e => wd e, fun _ => ⟨_, _, .inr h1, rfl, fun _ => q _ _ (Same.refl _) S, we⟩⟩
      · have h1 := S.t hp
        have at0 : atI (V.str u :: vs) 0 = some (.str u) := atI_nat (j := 0) rfl
        refine ⟨_, .str u, .inr h1, at0, fun e => absurd (of_decide_eq_true e) u1, fun _ => ⟨_, .str u, .inr h1, at0, fun e => absurd (of_decide_eq_true e) u2, fun _ => ?_⟩⟩
        refine ⟨1, rfl, p, _, rfl, S.t hp, tail_ok S hp, fun t nt => ?_⟩
        rw [cutT1] at *
        have S2 := S.newG (o := .tup vs) nt
        have s2 := S.grow (o := .tup vs) nt
        have kvl := prd_len hk
        refine ⟨t, rfl, ⟨vs, SqT.of (S2.st upd_same)⟩, fun D nD => lc_tup (xs := vs) (fun i H' => ∃ (G' : Hp), Same (upd G t (.tup vs)) G' ∧ Sep G' ((D, .lst (((f.kids.take i).map fun c => (c.cnt : Int)).map V.int)) :: M) H')
          ⟨_, Same.refl _, S2.new nD⟩ (fun i H' _ h => ?_) (fun i x H' hx h => ⟨rfl, ?_⟩) (fun H' h => ?_)⟩
        · obtain ⟨G', s3, S3⟩ := h
          exact SqT.of (S3.st (s3 _ _ upd_same))
        · obtain ⟨G', s3, S3⟩ := h
          obtain ⟨c, hc', hc⟩ := prd_get hk hx
          have dc := kd c (List.mem_of_getElem? hc')
          have il : i < f.kids.length := (List.getElem?_eq_some_iff.mp hc').1
          refine ⟨G', _, _, c, rfl, S3, (hc.same' s2).same' s3, by omega, fun G4 H4 s4 S4 => ?_⟩
          refine ⟨_, S4.hd, smallL (by rw [List.length_map, List.length_map, List.length_take]; omega), G4, s3.trans s4, ?_⟩
          rw [take_snoc hc', List.map_append, List.map_append]
          exact S4.set
        · obtain ⟨G', s3, S3⟩ := h
          rw [kvl, List.take_length] at S3
          refine ⟨D, _, rfl, SqL.of S3.hd, ?_⟩
          rw [sum_cnt]
          have e1 := Gm.cnt_kids kne
          have := q G' H' (s2.trans s3) S3.drop
          rw [e1] at this
          show Q (.int (1 + ((cntL f.kids : Nat) : Int))) H'
          rw [show (1 : Int) + ((cntL f.kids : Nat) : Int) = ((1 + cntL f.kids : Nat) : Int) by omega]
          exact this

/-! ### forms by name as data -/
def Gm.dat : Gm → PyData
  | .is n => .tuple [.str "is", .int n]
  | .get x => .tuple [.str "get", .str x]
  | .sum a b => .tuple [.str "sum", a.dat, b.dat]
  | .same a b => .tuple [.str "same", a.dat, b.dat]
  | .pick a b c => .tuple [.str "pick", a.dat, b.dat, c.dat]
theorem gm_dp {K : PySem.W.Frag} {G : Hp} {v : V} {f : Gm} (h : GmAt K G v f) : Dp K G v f.dat := by
  induction h with
  | is h => exact .tup h (.cons (.str _) (.cons (.int _) .nil))
  | get h => exact .tup h (.cons (.str _) (.cons (.str _) .nil))
  | sum h _ _ h2 h3 => exact .tup h (.cons (.str _) (.cons h2 (.cons h3 .nil)))
  | same h _ _ h2 h3 => exact .tup h (.cons (.str _) (.cons h2 (.cons h3 .nil)))
  | pick h _ _ _ h2 h3 h4 => exact .tup h (.cons (.str _) (.cons h2 (.cons h3 (.cons h4 .nil))))
structure NmL (ns : List Str) : Prop where
  lt : ∀ z ∈ ns, Lt 1 8 z
theorem name_ok {z : Str} (h : Lt 1 8 z) : nameS z = true := by
  unfold nameS
  rw [decide_eq_true h.lo, decide_eq_true h.hi, Bool.true_and, Bool.true_and, List.all_eq_true]
  exact fun c hc => decide_eq_true (h.ch c hc)
theorem dat_fb {ns : List Str} (hn : NmL ns) : ∀ f : Gm, f.ok ns → fb f.dat = none ∧ lev f.dat = f.dep
  | .is n, ok => by
    have e : partOk (.tuple [.str "is", .int n]) = true := by
      have e1 : headN "is" = 2 := by decide +kernel
      simp only [partOk, e1, List.headD, numOk, decide_eq_true (show 0 ≤ n ∧ n ≤ 9 from ok)]
      simp
    exact fb_leaf e (.inl rfl)
  | .get x, ok => by
    have e : partOk (.tuple [.str "get", .str x]) = true := by
      have e1 : headN "get" = 2 := by decide +kernel
      have e2 : ¬ (("get" : Str) = "is") := by decide +kernel
      simp only [partOk, e1, List.headD, nameOk, if_neg e2, name_ok (hn.lt x ok)]
      simp
    exact fb_leaf e (.inr rfl)
  | .sum a b, ok => by
    have e : partOk (.tuple [.str "sum", a.dat, b.dat]) = true := by
      have e1 : headN "sum" = 3 := by decide +kernel
      have e2 : ¬ (("sum" : Str) = "is") := by decide +kernel
      have e3 : ¬ (("sum" : Str) = "get") := by decide +kernel
      simp only [partOk, e1, if_neg e2, if_neg e3]
      simp
    obtain ⟨a1, a2⟩ := dat_fb hn a ok.1
    obtain ⟨b1, b2⟩ := dat_fb hn b ok.2
    obtain ⟨f1, f2⟩ := fb_node e ⟨by decide +kernel, by decide +kernel⟩
    refine ⟨f1.trans (by simp only [fbs, a1, b1]), f2.trans ?_⟩
    simp only [levs, a2, b2, Gm.dep]
    omega
  | .same a b, ok => by
    have e : partOk (.tuple [.str "same", a.dat, b.dat]) = true := by
      have e1 : headN "same" = 3 := by decide +kernel
      have e2 : ¬ (("same" : Str) = "is") := by decide +kernel
      have e3 : ¬ (("same" : Str) = "get") := by decide +kernel
      simp only [partOk, e1, if_neg e2, if_neg e3]
      simp
    obtain ⟨a1, a2⟩ := dat_fb hn a ok.1
    obtain ⟨b1, b2⟩ := dat_fb hn b ok.2
    obtain ⟨f1, f2⟩ := fb_node e ⟨by decide +kernel, by decide +kernel⟩
    refine ⟨f1.trans (by simp only [fbs, a1, b1]), f2.trans ?_⟩
    simp only [levs, a2, b2, Gm.dep]
    omega
  | .pick a b c, ok => by
    have e : partOk (.tuple [.str "pick", a.dat, b.dat, c.dat]) = true := by
      have e1 : headN "pick" = 4 := by decide +kernel
      have e2 : ¬ (("pick" : Str) = "is") := by decide +kernel
      have e3 : ¬ (("pick" : Str) = "get") := by decide +kernel
      simp only [partOk, e1, if_neg e2, if_neg e3]
      simp
    obtain ⟨a1, a2⟩ := dat_fb hn a ok.1
    obtain ⟨b1, b2⟩ := dat_fb hn b ok.2.1
    obtain ⟨c1, c2⟩ := dat_fb hn c ok.2.2
    obtain ⟨f1, f2⟩ := fb_node e ⟨by decide +kernel, by decide +kernel⟩
    refine ⟨f1.trans (by simp only [fbs, a1, b1, c1]), f2.trans ?_⟩
    simp only [levs, a2, b2, c2, Gm.dep]
    omega
/-! its size -/
theorem OkE.lit {z : Str} {b : Nat} (h : (z.cps.toList.all fun c => decide (c < 1114112)) = true) (l : 10 * z.length + 15 ≤ b) : OkE b 0 (.str z) := .str (fun c hc => of_decide_eq_true (List.all_eq_true.mp h c hc)) l
theorem OkE.name {z : Str} (h : Lt 1 8 z) : OkE 95 0 (.str z) := .str (fun c hc => LS_low c (h.ch c hc)) (by have := h.hi; omega)
theorem dig_e : ∀ n : Nat, n < 10 → PySem.tbE (.int (n : Nat)) ≤ 20 ∧ PyData.weight (.int (n : Nat)) ≤ 20 ∧ PyData.showable (.int (n : Nat)) = true := by decide +kernel
theorem OkE.digit {n : Int} (h0 : 0 ≤ n) (h1 : n ≤ 9) : OkE 20 0 (.int n) := by
  obtain ⟨k, rfl⟩ := Int.eq_ofNat_of_zero_le h0
  obtain ⟨a, b, c⟩ := dig_e k (by omega)
  exact .leaf c a b (by simp only [PyData.depth])
theorem dat_e {ns : List Str} (hn : NmL ns) : ∀ f : Gm, f.ok ns → OkE (160 * f.cnt) f.dep f.dat
  | .is n, ok => (OkEs.cons (OkE.lit (b := 35) (by decide +kernel) (by decide +kernel)) (.cons (OkE.digit ok.1 ok.2) .nil)).tup.mono (by simp only [Gm.cnt]; omega) (by simp only [Gm.dep]; omega)
  | .get x, ok => (OkEs.cons (OkE.lit (b := 45) (by decide +kernel) (by decide +kernel)) (.cons (OkE.name (hn.lt x ok)) .nil)).tup.mono (by simp only [Gm.cnt]; omega) (by simp only [Gm.dep]; omega)
  | .sum a b, ok => (OkEs.cons ((OkE.lit (b := 45) (by decide +kernel) (by decide +kernel)).mono (Nat.le_refl _) (Nat.zero_le _)) (.cons ((dat_e hn a ok.1).mono (Nat.le_refl _) (Nat.le_max_left _ _)) (.cons ((dat_e hn b ok.2).mono (Nat.le_refl _) (Nat.le_max_right a.dep _)) .nil))).tup.mono (by simp only [Gm.cnt]; omega) (by simp only [Gm.dep]; omega)
  | .same a b, ok => (OkEs.cons ((OkE.lit (b := 55) (by decide +kernel) (by decide +kernel)).mono (Nat.le_refl _) (Nat.zero_le _)) (.cons ((dat_e hn a ok.1).mono (Nat.le_refl _) (Nat.le_max_left _ _)) (.cons ((dat_e hn b ok.2).mono (Nat.le_refl _) (Nat.le_max_right a.dep _)) .nil))).tup.mono (by simp only [Gm.cnt]; omega) (by simp only [Gm.dep]; omega)
  | .pick a b c, ok => (OkEs.cons (dp := max a.dep (max b.dep c.dep)) ((OkE.lit (b := 55) (by decide +kernel) (by decide +kernel)).mono (Nat.le_refl _) (Nat.zero_le _)) (.cons ((dat_e hn a ok.1).mono (Nat.le_refl _) (by omega)) (.cons ((dat_e hn b ok.2.1).mono (Nat.le_refl _) (by omega)) (.cons ((dat_e hn c ok.2.2).mono (Nat.le_refl _) (by omega)) .nil)))).tup.mono (by simp only [Gm.cnt]; omega) (by simp only [Gm.dep]; omega)
theorem cnt_dep : ∀ f : Gm, 2 * f.cnt + 1 ≤ 3 ^ f.dep
  | .is _ => by simp [Gm.cnt, Gm.dep]
  | .get _ => by simp [Gm.cnt, Gm.dep]
  | .sum a b => by
    have h1 := cnt_dep a
    have h2 := cnt_dep b
    have h3 : 3 ^ a.dep ≤ 3 ^ max a.dep b.dep := Nat.pow_le_pow_right (by decide) (by omega)
    have h4 : 3 ^ b.dep ≤ 3 ^ max a.dep b.dep := Nat.pow_le_pow_right (by decide) (by omega)
    have h5 : 3 ^ 1 ≤ 3 ^ max a.dep b.dep := Nat.pow_le_pow_right (by decide) (by have := a.dep_pos; omega)
    simp only [Gm.cnt, Gm.dep, Nat.pow_succ]
    omega
  | .same a b => by
    have h1 := cnt_dep a
    have h2 := cnt_dep b
    have h3 : 3 ^ a.dep ≤ 3 ^ max a.dep b.dep := Nat.pow_le_pow_right (by decide) (by omega)
    have h4 : 3 ^ b.dep ≤ 3 ^ max a.dep b.dep := Nat.pow_le_pow_right (by decide) (by omega)
    have h5 : 3 ^ 1 ≤ 3 ^ max a.dep b.dep := Nat.pow_le_pow_right (by decide) (by have := a.dep_pos; omega)
    simp only [Gm.cnt, Gm.dep, Nat.pow_succ]
    omega
  | .pick a b c => by
    have h1 := cnt_dep a
    have h2 := cnt_dep b
    have h6 := cnt_dep c
    have h3 : 3 ^ a.dep ≤ 3 ^ max a.dep (max b.dep c.dep) := Nat.pow_le_pow_right (by decide) (by omega)
    have h4 : 3 ^ b.dep ≤ 3 ^ max a.dep (max b.dep c.dep) := Nat.pow_le_pow_right (by decide) (by omega)
    have h5 : 3 ^ c.dep ≤ 3 ^ max a.dep (max b.dep c.dep) := Nat.pow_le_pow_right (by decide) (by omega)
    simp only [Gm.cnt, Gm.dep, Nat.pow_succ]
    omega
theorem cnt_le {f : Gm} {n : Nat} (h : f.dep ≤ n) : 2 * f.cnt + 1 ≤ 3 ^ n := Nat.le_trans (cnt_dep f) (Nat.pow_le_pow_right (by decide) h)
theorem cnt5 {f : Gm} (h : f.dep ≤ 5) : f.cnt ≤ 121 := by
  have h1 := cnt_le h
  have h2 : (3 : Nat) ^ 5 = 243 := by decide
  omega
theorem cnt6 {f : Gm} (h : f.dep ≤ 6) : f.cnt ≤ 364 := by
  have h1 := cnt_le h
  have h2 : (3 : Nat) ^ 6 = 729 := by decide
  omega

end
end K02
set_option Elab.async false
set_option linter.all false
set_option maxRecDepth 100000
set_option maxHeartbeats 4000000
namespace K02
open PySem PySem.Spec PyProof.Rows L2 XL
section
variable {P : Program} {w : World} {K : PySem.W.Frag} {mg : Str → Option Value} {base : Heap}
/-! ### the law's own check, of any thing -/
def isNum : PyData → Bool
  | .int _ => true
  | _ => false
def spNumL (K : PySem.W.Frag) : Sp := fun vs H Q _ => ∃ (v : V) (d : PyData), vs = [v] ∧ Dp K H v d ∧ Q (.bl (isNum d)) H
theorem ok_numberL (T : Top K mg w) {k : Nat} : FnOk P w K mg base CX0 (k + 1) T.a_number T.d_number ["_law_thing"] (spNumL K) := by
  refine T.F_number.ok sc_number (fun vs H Q E h => ?_) (fun cdv A outer s H vs Q E hr h => ?_)
  · obtain ⟨v, d, rfl, _⟩ := h
    rfl
  · obtain ⟨v, d, rfl, hv, q⟩ := h
    refine ⟨_, (pss_one (ps_ret (xe_and (pe_callB (call_isK K) (by rfl) T.m_isinstance (by decide +kernel) (pa_cons (xv 0) (pa_cons (pe_bltn (v := .ty "int") (by rfl) T.m_int (by decide +kernel) rfl) pa_nil))) (pe_one (xe_not (pe_callB (call_isK K) (by rfl) T.m_isinstance (by decide +kernel) (pa_cons (xv 0) (pa_cons (pe_bltn (v := .ty "bool") (by rfl) T.m_bool (by decide +kernel) rfl) pa_nil)))))))), ?_⟩
    cases hv with
    | non => exact ⟨_, _, _, _, false, rfl, .ty _, .base .non, kit_ty (by decide +kernel), ff, fun _ => q⟩
    | bl b => exact ⟨_, _, _, _, true, rfl, .ty _, .base (.bl _), kit_ty (by decide +kernel), fun _ => ⟨_, _, _, _, true, rfl, .ty _, .base (.bl _), kit_ty (by decide +kernel), q⟩, tt⟩
    | int i => exact ⟨_, _, _, _, true, rfl, .ty _, .base (.int _), kit_ty (by decide +kernel), fun _ => ⟨_, _, _, _, false, rfl, .ty _, .base (.int _), kit_ty (by decide +kernel), q⟩, tt⟩
    | str x => exact ⟨_, _, _, _, false, rfl, .ty _, .base (.str _), kit_ty (by decide +kernel), ff, fun _ => q⟩
    | lst h1 _ => exact ⟨_, _, _, _, false, rfl, .ty _, sqL_ty h1, kit_ty (by decide +kernel), ff, fun _ => q⟩
    | emp h1 => exact ⟨_, _, _, _, false, rfl, .ty _, emp_ty h1, kit_ty (by decide +kernel), ff, fun _ => q⟩
    | tup h1 _ => exact ⟨_, _, _, _, false, rfl, .ty _, sqT_ty h1, kit_ty (by decide +kernel), ff, fun _ => q⟩
theorem ok_is_nameL (T : Top K mg w) {k : Nat} : FnOk P w K mg base CX0 (k + 1) T.a_law_is_name T.d_law_is_name ["_law_told"] (spNameG K) := by
  refine T.F_law_is_name.ok sc_law_is_name (fun vs H Q E h => ?_) (fun cdv A outer s H vs Q E hr h => ?_)
  · obtain ⟨G, M, v, d, rfl, _⟩ := h
    rfl
  · obtain ⟨G, M, v, d, rfl, S, hv, sh, q⟩ := h
    refine ⟨_, (pss_cons (xs_if (PW.pt (xw_or (pt_not (xt_truK K (pe_callB (call_isK K) (by rfl) T.m_isinstance (by decide +kernel) (pa_cons (xv 0) (pa_cons (pe_bltn (v := .ty "str") (by rfl) T.m_str (by decide +kernel) rfl) pa_nil))))) (xw_or (xt_cmp op_ltY (pe_callB (cr_lenK K) (by rfl) T.m_len (by decide +kernel) (pa_cons (xv 0) pa_nil)) pe_int (nomark _)) (pw_or1 (xt_cmp op_gtY (pe_callB (cr_lenK K) (by rfl) T.m_len (by decide +kernel) (pa_cons (xv 0) pa_nil)) pe_int (nomark _))))))
      (pss_one (ps_ret pe_bl))
      pss_nil)
      (pss_one (ps_ret (pe_cmpR (op_eqNil K (Nat.lt_of_le_of_lt (Nat.le_add_right _ 70) (u70 hr))) (pe_lc (own := [("_law_letter", 1)]) (by rfl) sc_law_is_name.nd (pi_str (xv 0)) (blkOk_by (N := ["_law_told", "_law_letter"]) (sc := defScope s_law_is_name) (by decide +kernel)) (fun _ _ _ _ _ => (pg_name (i := 1) sc_law_is_name.nd rfl (.inl rfl))) (fun _ _ _ _ _ => (pts_one (xt_cmp op_notIn_sign (xv 1) pe_str (by rfl)))) (fun _ _ _ _ _ => (xv 1))) (pe_lst pa_nil) (nomark _))))), ?_⟩
    have q0 := q G H (Same.refl _) S
    cases hv with
    | non => exact ⟨_, _, _, _, false, rfl, .ty _, .base .non, kit_ty (by decide +kernel), fun _ => ⟨fun _ => q0, tt⟩, tt⟩
    | bl b => exact ⟨_, _, _, _, false, rfl, .ty _, .base (.bl _), kit_ty (by decide +kernel), fun _ => ⟨fun _ => q0, tt⟩, tt⟩
    | int i => exact ⟨_, _, _, _, false, rfl, .ty _, .base (.int _), kit_ty (by decide +kernel), fun _ => ⟨fun _ => q0, tt⟩, tt⟩
    | lst h1 _ => exact ⟨_, _, _, _, false, rfl, .ty _, sqL_ty h1, kit_ty (by decide +kernel), fun _ => ⟨fun _ => q0, tt⟩, tt⟩
    | emp h1 => exact ⟨_, _, _, _, false, rfl, .ty _, emp_ty h1, kit_ty (by decide +kernel), fun _ => ⟨fun _ => q0, tt⟩, tt⟩
    | tup h1 _ => exact ⟨_, _, _, _, false, rfl, .ty _, sqT_ty h1, kit_ty (by decide +kernel), fun _ => ⟨fun _ => q0, tt⟩, tt⟩
    | str x =>
      have hz : x.length ≤ sizeLine := small (by have := sh x rfl; omega)
      refine ⟨_, _, _, _, true, rfl, .ty _, .base (.str _), kit_ty (by decide +kernel), ff, fun _ => ⟨hz, fun e => ?_, fun e0 => ⟨hz, fun e => ?_, fun e1 => ?_⟩⟩⟩
      · have z := of_decide_eq_true e
        have e2 : nameOk (.str x) = false := by
          show nameS x = false
          unfold nameS
          rw [decide_eq_false (show ¬ 1 ≤ x.length by omega), Bool.false_and]
        rw [e2] at q0
        exact ⟨fun _ => q0, tt⟩
      · have z : (8 : Int) < x.length := of_decide_eq_true e
        have e2 : nameOk (.str x) = false := by
          show nameS x = false
          unfold nameS
          rw [decide_eq_false (show ¬ x.length ≤ 8 by omega), Bool.false_and, Bool.and_false]
        rw [e2] at q0
        exact q0
      · have z0 : ¬ ((x.length : Nat) : Int) < 1 := of_decide_eq_false e0
        have z1 : ¬ (8 : Int) < x.length := of_decide_eq_false e1
        have e2 : nameOk (.str x) = x.cps.toList.all fun c => decide (c ∈ ("abcdefghijklmnopqrstuvwxyz" : Str).cps.toList) := by
          show nameS x = _
          unfold nameS
          rw [decide_eq_true (show 1 ≤ x.length by omega), decide_eq_true (show x.length ≤ 8 by omega), Bool.true_and, Bool.true_and]
        have xl : x.cps.size = x.length := rfl
        refine ⟨x, rfl, fun L nL => lc_it (walk_str (z := x)) (fun i H' => Sep G ((L, .lst (((x.cps.toList.take i).filter fun c => !decide (c ∈ ("abcdefghijklmnopqrstuvwxyz" : Str).cps.toList)).map fun c => V.str ⟨#[c]⟩)) :: M) H') (S.new nL) (fun _ _ _ _ => trivial) (fun i v H1 H' hi p y => ?_) (fun H' S1 => ?_)⟩
        · obtain ⟨rfl, c, hc, rfl⟩ := y
          have hc2 : x.cps.toList[i]? = some c := by rw [Array.getElem?_toList]; exact hc
          refine ⟨rfl, c, _, rfl, rfl, ?_⟩
          refine tst (fun e => ?_) (fun e => ?_)
          · have e : (!decide (c ∈ ("abcdefghijklmnopqrstuvwxyz" : Str).cps.toList)) = true := e
            have h3 := List.length_filter_le (fun c => !decide (c ∈ ("abcdefghijklmnopqrstuvwxyz" : Str).cps.toList)) (x.cps.toList.take i)
            rw [List.length_take] at h3
            have := Array.length_toList (xs := x.cps)
            refine ⟨_, p.hd, by rw [List.length_map]; exact smallL (by omega), ?_⟩
            rw [take_snoc hc2, List.filter_append, List.map_append, show ([c].filter fun c => !decide (c ∈ ("abcdefghijklmnopqrstuvwxyz" : Str).cps.toList)) = [c] by simp only [List.filter]; rw [e]]
            exact p.set
          · have e : (!decide (c ∈ ("abcdefghijklmnopqrstuvwxyz" : Str).cps.toList)) = false := e
            rw [take_snoc hc2, List.filter_append, show ([c].filter fun c => !decide (c ∈ ("abcdefghijklmnopqrstuvwxyz" : Str).cps.toList)) = [] by simp only [List.filter]; rw [e], List.append_nil]
            exact p
        · have e3 : x.cps.toList.take x.cps.size = x.cps.toList := List.take_of_length_le (by simp)
          rw [e3] at S1
          refine ⟨sz, fun t nt => ?_⟩
          have S2 := S1.new (o := .lst []) nt
          refine ⟨L, t, _, rfl, rfl, SqL.of S2.sw.hd, SqL.of S2.hd, ?_⟩
          have e4 : ((x.cps.toList.filter fun c => !decide (c ∈ ("abcdefghijklmnopqrstuvwxyz" : Str).cps.toList)).map fun c => V.str ⟨#[c]⟩).isEmpty = nameOk (.str x) := by
            rw [e2, List.isEmpty_map]
            rw [Bool.eq_iff_iff, List.isEmpty_iff, List.filter_eq_nil_iff, List.all_eq_true]
            simp
          rw [e4]
          exact q _ _ (Same.refl _) S2.drop.drop

def words5 : List Str := ["is", "get", "sum", "same", "pick"]
theorem word_in (x : Str) : decide (x ∈ words5) = !decide (headN x = 0) := by
  by_cases h : headN x = 0
  · obtain ⟨n1, n2, n3, n4, n5⟩ := headN_none h
    simp [words5, h, n1, n2, n3, n4, n5]
  · rcases headN_some h with rfl | rfl | rfl | rfl | rfl <;> decide +kernel
theorem word_at {x : Str} (h : headN x ≠ 0) : ∃ j : Nat, (words5.map V.str)[j]? = some (.str x) ∧ ([V.int 2, .int 2, .int 3, .int 3, .int 4] : List V)[j]? = some (.int (headN x : Nat)) ∧ ∀ (m : Nat) (z' : V), m < j → (words5.map V.str)[m]? = some z' → eqV z' (.str x) = false := by
  have key : ∀ (j : Nat) (y : Str), j < 5 → words5[j]? = some y → ∀ (m : Nat) (z' : V), m < j → (words5.map V.str)[m]? = some z' → eqV z' (.str y) = false := fun j y hj hy m z' hm hz => by
    have nd : ∀ j : Fin 5, ∀ m : Fin 5, m < j → (words5[m.val]! == words5[j.val]!) = false := by decide +kernel
    have h1 := nd ⟨j, hj⟩ ⟨m, by omega⟩ hm
    rw [List.getElem?_map] at hz
    obtain ⟨z, hz2, rfl⟩ := Option.map_eq_some_iff.mp hz
    have e1 : words5[j]! = y := by rw [getElem!_def, hy]
    have e2 : words5[m]! = z := by rw [getElem!_def, hz2]
    have h1 : (words5[m]! == words5[j]!) = false := h1
    rw [e1, e2] at h1
    exact h1
  rcases headN_some h with rfl | rfl | rfl | rfl | rfl
  · exact ⟨0, rfl, rfl, key 0 _ (by decide) rfl⟩
  · exact ⟨1, rfl, rfl, key 1 _ (by decide) rfl⟩
  · exact ⟨2, rfl, rfl, key 2 _ (by decide) rfl⟩
  · exact ⟨3, rfl, rfl, key 3 _ (by decide) rfl⟩
  · exact ⟨4, rfl, rfl, key 4 _ (by decide) rfl⟩
theorem tailD_ok {K : PySem.W.Frag} (vs : List V) (u : V) : ¬ (HT.sIx (u :: vs).length 0 (some 1) = 0 ∧ HT.sIx (u :: vs).length (u :: vs).length none = (u :: vs).length) := by
  rintro ⟨z, _⟩
  rw [show HT.sIx (u :: vs).length 0 (some 1) = min 1 (u :: vs).length from HT.sIx_nat _ 0 1, List.length_cons] at z
  omega
theorem Okd.tl {x : PyData} {r : List PyData} (h : Okd (.tuple (x :: r))) {y : PyData} (hy : y ∈ r) : Okd y := Okd.kid h (List.mem_cons_of_mem _ hy)
theorem depth_tl {x y : PyData} {r : List PyData} {n : Nat} (h : (PyData.tuple (x :: r)).depth < n + 1) (hy : y ∈ r) : y.depth < n := by
  have : ∀ {l : List PyData}, y ∈ l → y.depth ≤ PyData.depthAll l := fun {l} => by
    induction l with
    | nil => intro h; exact nomatch h
    | cons a b ih =>
      intro h
      simp only [PyData.depthAll]
      rcases List.mem_cons.mp h with rfl | h
      · omega
      · have := ih h
        omega
  have h2 := this (List.mem_cons_of_mem x hy)
  simp only [PyData.depth] at h
  omega
theorem isNum_ok {d : PyData} (h : isNum d = false) : numOk d = false := by cases d <;> first | rfl | exact nomatch h
theorem isNum_int {K : PySem.W.Frag} {G : Hp} {v : V} {d : PyData} (h : Dp K G v d) (e : isNum d = true) : ∃ i, v = .int i ∧ d = .int i := by
  cases h with
  | int i => exact ⟨i, rfl, rfl⟩
  | _ => exact nomatch e
def spFirst (K : PySem.W.Frag) (n : Nat) : Sp := fun vs H Q _ => ∃ (G : Hp) (M : List (Addr × HO)) (v : V) (d : PyData), vs = [v] ∧ Sep G M H ∧ Dp K G v d ∧ Okd d ∧ d.depth < n ∧
  ∀ (L : Addr) (G' H' : Hp) (us : List V), Same G G' → G' L = some (.lst us) → DpAll K G' us (fb d).toList → Sep G' M H' → Q (.ref L) H'
theorem ok_first_wrong (T : Top K mg w) {k : Nat} (G_number : FnOk P w K mg base CX0 (k + 1) T.a_number T.d_number ["_law_thing"] (spNumL K)) (G_law_is_name : FnOk P w K mg base CX0 (k + 1) T.a_law_is_name T.d_law_is_name ["_law_told"] (spNameG K)) : ∀ n : Nat, FnOk P w K mg base CX0 (k + 1 + n) T.a_first_wrong T.d_first_wrong ["_law_part"] (spFirst K n)
  | 0 => fn_false39 fun vs H Q E h => by
    obtain ⟨_, _, _, _, _, _, _, _, h, _⟩ := h
    omega
  | n + 1 => by
    have G_first_wrong := ok_first_wrong T G_number G_law_is_name n
    have G_number := G_number.mono (show k + 1 ≤ k + 1 + n by omega)
    have G_law_is_name := G_law_is_name.mono (show k + 1 ≤ k + 1 + n by omega)
    refine T.F_first_wrong.ok sc_first_wrong (fun vs H Q E h => ?_) (fun cdv A outer s H vs Q E hr h => ?_)
    · obtain ⟨G, M, v, d, rfl, _⟩ := h
      rfl
    · obtain ⟨G, M, v, d, rfl, S, hv, ok, hd, q⟩ := h
      have hr : Room (k + 1 + n) (A.deeper (envOfC (Str.ofString "_law_first_wrong") (defScope s_first_wrong) s.heap.objs.size T.a_first_wrong cdv)) := hr
      refine ⟨_, (pss_cons (xs_if (PW.pt (xw_or (pt_not (xt_truK K (pe_callB (call_isK K) (by rfl) T.m_isinstance (by decide +kernel) (pa_cons (xv 0) (pa_cons (pe_bltn (v := .ty "tuple") (by rfl) T.m_tuple (by decide +kernel) rfl) pa_nil))))) (xw_or (xt_cmp (op_eqLK K hr.u190) (pe_callB (cr_lenK K) (by rfl) T.m_len (by decide +kernel) (pa_cons (xv 0) pa_nil)) pe_int (nomark _)) (pw_or1 (pt_not (xt_truK K (pe_callB (call_isK K) (by rfl) T.m_isinstance (by decide +kernel) (pa_cons (pe_ix (ix_k K) (xv 0) pe_int (fun _ _ => rfl)) (pa_cons (pe_bltn (v := .ty "str") (by rfl) T.m_str (by decide +kernel) rfl) pa_nil)))))))))
      (pss_one (ps_ret (pe_lst (pa_cons (xv 0) pa_nil))))
      pss_nil)
      (pss_cons (ps_set (i := 1) sc_first_wrong.nd rfl (.inl rfl) (pe_lst (pa_cons pe_str (pa_cons pe_str (pa_cons pe_str (pa_cons pe_str (pa_cons pe_str pa_nil)))))))
      (pss_cons (xs_if (PW.pt (xw_or (xt_cmp (notin_seqK K) (pe_ix (ix_k K) (xv 0) pe_int (fun _ _ => rfl)) (xv 1) (by rfl)) (pw_or1 (xt_cmp (op_neLK K hr.u190) (pe_callB (cr_lenK K) (by rfl) T.m_len (by decide +kernel) (pa_cons (xv 0) pa_nil)) (pe_ix (ix_k K) (pe_lst (pa_cons pe_int (pa_cons pe_int (pa_cons pe_int (pa_cons pe_int (pa_cons pe_int pa_nil)))))) (pe_bmK K PySem.F.plainAttrs_list PySem.F.slot_list_index PySem.F.type_list_index (mt_indexK K) (xv 1) (pa_cons (pe_ix (ix_k K) (xv 0) pe_int (fun _ _ => rfl)) pa_nil)) (fun _ _ => rfl)) (nomark _)))))
      (pss_one (ps_ret (pe_lst (pa_cons (xv 0) pa_nil))))
      pss_nil)
      (pss_cons (xs_if (xt_cmp (op_eqLK K hr.u190) (pe_ix (ix_k K) (xv 0) pe_int (fun _ _ => rfl)) pe_str (nomark _))
      (pss_one (ps_ret (xe_if (PW.pt (xw_and (xt_truK K (pe_call G_number (hr.mono (by omega)) (by rfl) T.g_number T.F_number.kp T.b_number .nil pass0 (pa_cons (pe_ix (ix_k K) (xv 0) pe_int (fun _ _ => rfl)) pa_nil))) (pw_and1 (xt_chain op_leY op_leY pe_int (pe_ix (ix_k K) (xv 0) pe_int (fun _ _ => rfl)) pe_int)))) (pe_lst pa_nil) (pe_lst (pa_cons (xv 0) pa_nil)))))
      pss_nil)
      (pss_cons (xs_if (xt_cmp (op_eqLK K hr.u190) (pe_ix (ix_k K) (xv 0) pe_int (fun _ _ => rfl)) pe_str (nomark _))
      (pss_one (ps_ret (xe_if (xt_truK K (pe_call G_law_is_name (hr.mono (by omega)) (by rfl) T.g_law_is_name T.F_law_is_name.kp T.b_law_is_name .nil pass0 (pa_cons (pe_ix (ix_k K) (xv 0) pe_int (fun _ _ => rfl)) pa_nil))) (pe_lst pa_nil) (pe_lst (pa_cons (xv 0) pa_nil)))))
      pss_nil)
      (pss_cons (ps_for PassesOwn.never rfl (pi_tupK K (pe_slice sl_tup (xv 0) (po_some pe_int) po_none)) (pg_name (i := 2) sc_first_wrong.nd rfl (.inl rfl))
      (pss_cons (ps_set (i := 3) sc_first_wrong.nd rfl (.inl rfl) (pe_call G_first_wrong (hr.mono (by omega)) (by rfl) T.g_first_wrong T.F_first_wrong.kp T.b_first_wrong .nil pass0 (pa_cons (xv 2) pa_nil)))
      (pss_one (xs_if (xt_cmp (op_eqLK K hr.u190) (pe_callB (cr_lenK K) (by rfl) T.m_len (by decide +kernel) (pa_cons (xv 3) pa_nil)) pe_int (nomark _))
      (pss_one (ps_ret (xv 3)))
      pss_nil))))
      (pss_one (ps_ret (pe_lst pa_nil))))))))), ?_⟩
      have one : ∀ (G1 H1 : Hp) (N : List (Addr × HO)), Same G G1 → Sep G1 (N ++ M) H1 → fb d = some d → ∀ t, H1 t = none → Q (.ref t) (upd H1 t (.lst [v])) := fun G1 H1 N s1 S1 e t nt => by
        obtain ⟨G2, s2, S2, k2⟩ := Sep.mk (o := .lst [v]) (S1.sub (M' := M) (List.sublist_append_right N _)) nt
        exact q t G2 _ [v] (s1.trans s2) k2 (by rw [e]; exact .cons (dp_same (s1.trans s2) hv) .nil) S2
      have non : ∀ (G1 H1 : Hp) (N : List (Addr × HO)), Same G G1 → Sep G1 (N ++ M) H1 → fb d = none → ∀ t, H1 t = none → Q (.ref t) (upd H1 t (.lst [])) := fun G1 H1 N s1 S1 e t nt => by
        obtain ⟨G2, s2, S2, k2⟩ := Sep.mk (o := .lst []) (S1.sub (M' := M) (List.sublist_append_right N _)) nt
        exact q t G2 _ [] (s1.trans s2) k2 (by rw [e]; exact .nil) S2
      have one0 := one G H [] (Same.refl _) S
      have hv1 := dp_same S.1 hv
      cases hv1 with
      | non => exact ⟨_, _, _, _, false, rfl, .ty _, .base .non, kit_ty (by decide +kernel), fun _ => ⟨fun _ => ⟨sz, one0 (fb_bad rfl)⟩, tt⟩, tt⟩
      | bl b => exact ⟨_, _, _, _, false, rfl, .ty _, .base (.bl _), kit_ty (by decide +kernel), fun _ => ⟨fun _ => ⟨sz, one0 (fb_bad rfl)⟩, tt⟩, tt⟩
      | int i => exact ⟨_, _, _, _, false, rfl, .ty _, .base (.int _), kit_ty (by decide +kernel), fun _ => ⟨fun _ => ⟨sz, one0 (fb_bad rfl)⟩, tt⟩, tt⟩
      | str x => exact ⟨_, _, _, _, false, rfl, .ty _, .base (.str _), kit_ty (by decide +kernel), fun _ => ⟨fun _ => ⟨sz, one0 (fb_bad rfl)⟩, tt⟩, tt⟩
      | lst h1 _ => exact ⟨_, _, _, _, false, rfl, .ty _, sqL_ty h1, kit_ty (by decide +kernel), fun _ => ⟨fun _ => ⟨sz, one0 (fb_bad rfl)⟩, tt⟩, tt⟩
      | emp h1 => exact ⟨_, _, _, _, false, rfl, .ty _, emp_ty h1, kit_ty (by decide +kernel), fun _ => ⟨fun _ => ⟨sz, one0 (fb_bad rfl)⟩, tt⟩, tt⟩
      | @tup a _ _ _ _ =>
        obtain ⟨a', xs, e0, hp, hds⟩ := dp_tup hv
        cases e0
        have h1 := S.t hp
        refine ⟨_, _, _, _, true, rfl, .ty _, sqT_ty h1, kit_ty (by decide +kernel), ff, fun _ => ?_⟩
        cases hds with
        | nil => exact ⟨_, .inr h1, fun _ => ⟨fun _ => ⟨sz, one0 (fb_bad rfl)⟩, tt⟩, fun e => absurd e (by simp)⟩
        | @cons v0 vr d0 r hv0 hvr =>
          have vl := dpa_len hvr
          have at0 : atI (v0 :: vr) 0 = some v0 := atI_nat (j := 0) rfl
          refine ⟨_, .inr h1, fun e => by have := of_decide_eq_true e; rw [List.length_cons] at this; omega, fun _ => ?_⟩
          rcases dp_tyx (dp_same S.1 hv0) with ⟨x, rfl, rfl⟩ | ⟨ns, t, ty, kt⟩
          · refine ⟨_, _, .inr h1, at0, _, _, _, _, true, rfl, .ty _, .base (.str _), kit_ty (by decide +kernel), ff, fun _ => ?_⟩
            have emb : ∀ (A : Prop), A → A := fun _ h => h
            refine ⟨sz, fun W nW => ?_⟩
            have S1 := S.new (o := .lst (words5.map V.str)) nW
            have hW := SqL.of (K := K) S1.hd
            have one1 := one G _ [(W, .lst (words5.map V.str))] (Same.refl _) S1
            have h1 := S1.t hp
            refine ⟨_, _, .inr h1, at0, W, _, rfl, .inl hW, rfl, flS _, ?_⟩
            rw [show inV (.str x) (words5.map V.str) = !decide (headN x = 0) from (inS words5).trans (word_in x)]
            refine ⟨fun e => ?_, fun e => ?_⟩
            · have e0 : headN x = 0 := of_decide_eq_true (by simpa using e)
              exact ⟨fun _ => ⟨sz, one1 (fb_bad (part_ne (by omega)))⟩, tt⟩
            · have e0 : headN x ≠ 0 := of_decide_eq_false (by simpa using e)
              obtain ⟨j, j1, j2, j3⟩ := word_at e0
              refine ⟨_, .inr h1, sz, fun t2 nt2 => ?_⟩
              have S2 := S1.new (o := .lst [V.int 2, .int 2, .int 3, .int 3, .int 4]) nt2
              have hW2 := SqL.of (K := K) S2.sw.hd
              have h12 := S2.t hp
              refine ⟨.inl ⟨rfl, _, hW2⟩, _, _, .inr h12, at0, W, _, _, j, _, rfl, rfl, hW2, rfl, flS _, j1, beq_self_eq_true _, j3, ?_⟩
              refine ⟨_, _, .inl (SqL.of S2.hd), atI_nat j2, fun e => ?_, fun e => ?_⟩
              · have e1 : headN x ≠ r.length + 1 := fun z => by
                  have : decide ((((V.str x :: vr).length : Nat) : Int) = (headN x : Nat)) = true := decide_eq_true (by rw [List.length_cons, vl]; omega)
                  simp only [this] at e
                  exact nomatch e
                exact ⟨sz, one G _ [(W, _)] (Same.refl _) S2.drop (fb_bad (part_ne e1))⟩
              · have e1 : headN x = r.length + 1 := by
                  have e2 : (!decide ((((V.str x :: vr).length : Nat) : Int) = (headN x : Nat))) = false := e
                  have := of_decide_eq_true (by simpa using e2 : decide ((((V.str x :: vr).length : Nat) : Int) = (headN x : Nat)) = true)
                  rw [List.length_cons, vl] at this
                  omega
                have S3 := S2.drop
                have one3 := one G _ [(W, _)] (Same.refl _) S3
                have non3 := non G _ [(W, _)] (Same.refl _) S3
                have hd1 : headN x ≠ 1 → ∃ v1 vr' d1 r', vr = v1 :: vr' ∧ r = d1 :: r' ∧ Dp K G v1 d1 := fun hne => by
                  cases hvr with
                  | nil => exact absurd e1 hne
                  | cons a b => exact ⟨_, _, _, _, rfl, rfl, a⟩
                refine ⟨_, _, .inr h12, at0, fun e2 => ?_, fun e2 => ?_⟩
                · have ex : x = "is" := of_decide_eq_true e2
                  subst ex
                  obtain ⟨v1, vr', d1, r', rfl, rfl, h3⟩ := hd1 (by decide +kernel)
                  have ep : partOk (.tuple (.str "is" :: d1 :: r')) = numOk d1 := by
                    simp only [partOk, e1]
                    simp
                  have at1 : atI (V.str "is" :: v1 :: vr') 1 = some v1 := atI_nat (j := 1) rfl
                  refine ⟨_, _, .inr h12, at1, v1, d1, rfl, dp_same S2.1 h3, ?_⟩
                  have bad : numOk d1 = false → tLst (tCons (xVar 0) tNil) [some (.ref a), some (.ref W), none, none] (upd (upd H W (.lst (words5.map V.str))) t2 (.lst [V.int 2, .int 2, .int 3, .int 3, .int 4])) Q := fun e6 => ⟨sz, one3 (fb_bad (ep.trans e6))⟩
                  refine ⟨fun e4 => ?_, fun e4 => ⟨ff, fun _ => bad (isNum_ok e4)⟩⟩
                  obtain ⟨i, rfl, rfl⟩ := isNum_int h3 e4
                  refine ⟨_, _, .inr h12, at1, fun e5 => ?_, fun e5 => ⟨ff, fun _ => bad (decide_eq_false fun z => absurd (of_decide_eq_false e5) (fun z2 => z2 z.1))⟩⟩
                  refine ⟨fun e6 => ⟨sz, non3 ?_⟩, fun e6 => bad (decide_eq_false fun z => absurd (of_decide_eq_false e6) (fun z2 => z2 z.2))⟩
                  exact (fb_leaf (ep.trans (decide_eq_true ⟨of_decide_eq_true e5, of_decide_eq_true e6⟩)) (.inl rfl)).1
                · have n1 : x ≠ "is" := of_decide_eq_false e2
                  refine ⟨_, _, .inr h12, at0, fun e2 => ?_, fun e2 => ?_⟩
                  · have ex : x = "get" := of_decide_eq_true e2
                    subst ex
                    obtain ⟨v1, vr', d1, r', rfl, rfl, h3⟩ := hd1 (by decide +kernel)
                    have ep : partOk (.tuple (.str "get" :: d1 :: r')) = nameOk d1 := by
                      simp only [partOk, e1]
                      simp [n1]
                    have ok1 : Okd d1 := ok.tl List.mem_cons_self
                    refine ⟨_, _, .inr h12, atI_nat (j := 1) rfl, G, _, v1, d1, rfl, S3, dp_same S2.1 h3, strs_of (Nat.le_trans ok1.wt (by decide)), fun G4 H4 s4 S4 => ⟨fun e4 => ?_, fun e4 => ?_⟩⟩
                    · rw [e4] at ep
                      exact ⟨sz, non G4 H4 [(W, _)] s4 S4 (fb_leaf ep (.inr rfl)).1⟩
                    · rw [e4] at ep
                      exact ⟨sz, one G4 H4 [(W, _)] s4 S4 (fb_bad ep)⟩
                  · have n2 : x ≠ "get" := of_decide_eq_false e2
                    have ep : partOk (.tuple (.str x :: r)) = true := by
                      simp only [partOk, e1]
                      simp [n1, n2]
                    have efb := (fb_node ep ⟨n1, n2⟩).1
                    refine ⟨1, rfl, a, _, rfl, h12, tailD_ok (K := K) vr _, fun t nt => ?_⟩
                    rw [cutT1] at *
                    obtain ⟨G4, s4, S4, k4⟩ := Sep.mk (o := .tup vr) S3 nt
                    refine ⟨t, rfl, ⟨vr, SqT.of (S4.st k4)⟩, for_tup (xs := vr) (fun i σ H' => ∃ (y2 y3 : Option V) (G' : Hp), σ = [some (.ref a), some (.ref W), y2, y3] ∧ Same G4 G' ∧ fbs (r.take i) = none ∧ Sep G' ((W, .lst (words5.map V.str)) :: M) H')
                      ⟨_, _, G4, rfl, Same.refl _, rfl, S4⟩ (fun i σ H' _ h => ?_) (fun i y σ H' hy h => ?_) (fun σ H' h => ?_)⟩
                    · obtain ⟨_, _, G', _, s', _, S'⟩ := h
                      exact SqT.of (S'.st (s' _ _ k4))
                    · obtain ⟨y2, y3, G', rfl, s', ef, S'⟩ := h
                      obtain ⟨c, hc', hc⟩ := dpa_get hvr hy
                      have cm := List.mem_of_getElem? hc'
                      refine ⟨G', _, _, c, rfl, S', dp_same (s4.trans s') hc, ok.tl cm, depth_tl hd cm, fun L G5 H5 us s5 hL hus S5 => ?_⟩
                      have ul := dpa_len hus
                      have er : fbs (r.take (i + 1)) = fb c := by
                        rw [take_snoc hc', fbs_app, ef]
                        simp only [fbs]
                        cases fb c <;> rfl
                      refine ⟨_, .inl (SqL.of (S5.st hL)), fun e5 => ?_, fun e5 => ?_⟩
                      · have e5 := of_decide_eq_true e5
                        cases ec : fb c with
                        | none =>
                          rw [ec] at ul
                          simp at ul
                          subst ul
                          exact absurd e5 (by decide)
                        | some p =>
                          have e6 : fbs r = some p := by
                            have := fbs_app (r.take (i + 1)) (r.drop (i + 1))
                            rw [List.take_append_drop, er, ec] at this
                            exact this
                          rw [ec] at hus
                          exact q L G5 H5 us (s4.trans (s'.trans s5)) hL (by rw [efb, e6]; exact hus) S5.drop
                      · have e5 := of_decide_eq_false e5
                        refine ⟨_, _, G5, rfl, s'.trans s5, ?_, S5⟩
                        rw [er]
                        cases ec : fb c with
                        | none => rfl
                        | some p =>
                          rw [ec] at ul
                          exact absurd (by rw [ul]; rfl) e5
                    · obtain ⟨y2, y3, G', rfl, s', ef, S'⟩ := h
                      rw [vl, List.take_length] at ef
                      exact ⟨sz, non G' H' [(W, _)] (s4.trans s') S' (efb.trans ef)⟩
          · have e1 : partOk (.tuple (d0 :: r)) = false := by
              cases d0 with
              | str x => exact absurd rfl (ns x)
              | _ => rfl
            exact ⟨_, _, .inr h1, at0, _, _, _, _, false, rfl, .ty _, ty, kit_ty kt, fun _ => ⟨sz, one0 (fb_bad e1)⟩, tt⟩

end
end K02
set_option Elab.async false
set_option linter.all false
set_option maxRecDepth 100000
set_option maxHeartbeats 4000000
namespace K02
open PySem PySem.Spec PyProof.Rows L2 XL
section
variable {P : Program} {w : World} {K : PySem.W.Frag} {mg : Str → Option Value} {base : Heap}
/-! ### levels, and what is wrong -/
theorem none_at {d : PyData} (h : fb d = none) : ∃ (x : Str) (r : List PyData), d = .tuple (.str x :: r) ∧ partOk d = true := by
  rcases Bool.eq_false_or_eq_true (partOk d) with hp | hp
  · obtain ⟨x, r, rfl, _⟩ := part_at hp
    exact ⟨x, r, rfl, hp⟩
  · rw [fb_bad hp] at h
    exact nomatch h
theorem levs_app : ∀ a b : List PyData, levs (a ++ b) = max (levs a) (levs b)
  | [], b => by simp [levs]
  | x :: r, b => by simp only [List.cons_append, levs, levs_app r b]; omega
theorem fbs_none : ∀ {r : List PyData}, fbs r = none → ∀ c ∈ r, fb c = none
  | [], _, c, h => nomatch h
  | x :: r, h, c, hc => by
    simp only [fbs] at h
    cases e : fb x with
    | some p => rw [e] at h; exact nomatch h
    | none =>
      rw [e] at h
      rcases List.mem_cons.mp hc with rfl | hc
      · exact e
      · exact fbs_none h c hc
def spLevD (K : PySem.W.Frag) (n : Nat) : Sp := fun vs H Q _ => ∃ (G : Hp) (M : List (Addr × HO)) (v : V) (d : PyData), vs = [v] ∧ Sep G M H ∧ Dp K G v d ∧ fb d = none ∧ d.depth < n ∧ ∀ G' H', Same G G' → Sep G' M H' → Q (.int (lev d : Nat)) H'
theorem ok_levelsD (T : Top K mg w) {k : Nat} : ∀ n : Nat, FnOk P w K mg base CX0 (k + 1 + n) T.a_levels T.d_levels ["_law_parts"] (spLevD K n)
  | 0 => fn_false39 fun vs H Q E h => by
    obtain ⟨_, _, _, _, _, _, _, _, h, _⟩ := h
    omega
  | n + 1 => by
    have G_levels := ok_levelsD T (k := k) n
    refine T.F_levels.ok sc_levels (fun vs H Q E h => ?_) (fun cdv A outer s H vs Q E hr h => ?_)
    · obtain ⟨G, M, v, d, rfl, _⟩ := h
      rfl
    · obtain ⟨G, M, v, d, rfl, S, hv, hfb, hd, q⟩ := h
      have hr : Room (k + 1 + n) (A.deeper (envOfC (Str.ofString "_law_levels") (defScope s_levels) s.heap.objs.size T.a_levels cdv)) := hr
      refine ⟨_, (pss_cons (xs_if (PW.pt (xw_or (xt_cmp (op_eqLK K hr.u190) (pe_ix (ix_k K) (xv 0) pe_int (fun _ _ => rfl)) pe_str (nomark _)) (pw_or1 (xt_cmp (op_eqLK K hr.u190) (pe_ix (ix_k K) (xv 0) pe_int (fun _ _ => rfl)) pe_str (nomark _)))))
      (pss_one (ps_ret pe_int))
      pss_nil)
      (pss_cons (ps_set (i := 1) sc_levels.nd rfl (.inl rfl) pe_int)
      (pss_cons (ps_for PassesOwn.never rfl (pi_tupK K (pe_slice sl_tup (xv 0) (po_some pe_int) po_none)) (pg_name (i := 2) sc_levels.nd rfl (.inl rfl))
      (pss_cons (ps_set (i := 3) sc_levels.nd rfl (.inl rfl) (pe_call G_levels (hr.mono (by omega)) (by rfl) T.g_levels T.F_levels.kp T.b_levels .nil pass0 (pa_cons (xv 2) pa_nil)))
      (pss_one (ps_set (i := 1) sc_levels.nd rfl (.inl rfl) (xe_if (xt_cmp op_gtY (xv 3) (xv 1) (nomark _)) (xv 3) (xv 1))))))
      (pss_one (ps_ret (pe_op op_addY (xv 1) pe_int)))))), ?_⟩
      obtain ⟨x, r, rfl, ep⟩ := none_at hfb
      obtain ⟨a, xs, rfl, hp, hds⟩ := dp_tup hv
      obtain ⟨xv, vr, rfl, hxv, hvr⟩ := dpa_cons hds
      obtain rfl := dp_str hxv
      have vl := dpa_len hvr
      have h1 := S.t hp
      have at0 : atI (V.str x :: vr) 0 = some (.str x) := atI_nat (j := 0) rfl
      have leaf : (x = "is" ∨ x = "get") → Q (.int 1) H := fun hx => by
        have := q G H (Same.refl _) S
        rw [(fb_leaf ep hx).2] at this
        exact this
      refine ⟨_, .str x, .inr h1, at0, fun e => ⟨fun _ => leaf (.inl (of_decide_eq_true e)), tt⟩, fun e1 => ⟨_, .str x, .inr h1, at0, fun e => leaf (.inr (of_decide_eq_true e)), fun e2 => ?_⟩⟩
      have n1 : x ≠ "is" := of_decide_eq_false e1
      have n2 : x ≠ "get" := of_decide_eq_false e2
      obtain ⟨f1, f2⟩ := fb_node ep ⟨n1, n2⟩
      rw [f1] at hfb
      refine ⟨1, rfl, a, _, rfl, h1, tailD_ok (K := K) vr _, fun t nt => ?_⟩
      rw [cutT1] at *
      obtain ⟨G4, s4, S4, k4⟩ := Sep.mk (o := .tup vr) S nt
      refine ⟨t, rfl, ⟨vr, SqT.of (S4.st k4)⟩, for_tup (xs := vr) (fun i σ H' => ∃ (y2 y3 : Option V) (G' : Hp), σ = [some (.ref a), some (.int (levs (r.take i) : Nat)), y2, y3] ∧ Same G4 G' ∧ Sep G' M H')
        ⟨_, _, G4, rfl, Same.refl _, S4⟩ (fun i σ H' _ h => ?_) (fun i y σ H' hy h => ?_) (fun σ H' h => ?_)⟩
      · obtain ⟨_, _, G', _, s', S'⟩ := h
        exact SqT.of (S'.st (s' _ _ k4))
      · obtain ⟨y2, y3, G', rfl, s', S'⟩ := h
        obtain ⟨c, hc', hc⟩ := dpa_get hvr hy
        have cm := List.mem_of_getElem? hc'
        have e1 : levs (r.take (i + 1)) = max (levs (r.take i)) (lev c) := by
          rw [take_snoc hc', levs_app]
          simp only [levs]
          omega
        refine ⟨G', _, _, c, rfl, S', dp_same (s4.trans s') hc, fbs_none hfb c cm, depth_tl hd cm, fun G5 H5 s5 S5 => ⟨fun e => ?_, fun e => ?_⟩⟩
        · have e : decide ((((levs (r.take i)) : Nat) : Int) < (lev c : Nat)) = true := e
          have e := of_decide_eq_true e
          refine ⟨some y, some (.int (lev c : Nat)), G5, ?_, s'.trans s5, S5⟩
          rw [e1, show max (levs (r.take i)) (lev c) = lev c by omega]
          rfl
        · have e : decide ((((levs (r.take i)) : Nat) : Int) < (lev c : Nat)) = false := e
          have e := of_decide_eq_false e
          refine ⟨some y, some (.int (lev c : Nat)), G5, ?_, s'.trans s5, S5⟩
          rw [e1, show max (levs (r.take i)) (lev c) = levs (r.take i) by omega]
          rfl
      · obtain ⟨y2, y3, G', rfl, s', S'⟩ := h
        rw [vl, List.take_length]
        have := q G' H' (s4.trans s') S'
        rw [f2] at this
        exact this
def spWrong (K : PySem.W.Frag) : Sp := fun vs H Q _ => ∃ (G : Hp) (M : List (Addr × HO)) (v : V) (d : PyData), vs = [v] ∧ Sep G M H ∧ Dp K G v d ∧ Okd d ∧
  ∀ (L : Addr) (G' H' : Hp) (us : List V), Same G G' → G' L = some (.lst us) → DpAll K G' us (due d).toList → Sep G' M H' → Q (.ref L) H'
theorem ok_wrong (T : Top K mg w) {k : Nat} (G_first_wrong : FnOk P w K mg base CX0 k T.a_first_wrong T.d_first_wrong ["_law_part"] (spFirst K 65)) (G_levels : FnOk P w K mg base CX0 k T.a_levels T.d_levels ["_law_parts"] (spLevD K 65)) :
    FnOk P w K mg base CX0 (k + 1) T.a_wrong T.d_wrong ["_law_parts"] (spWrong K) := by
  refine T.F_wrong.ok sc_wrong (fun vs H Q E h => ?_) (fun cdv A outer s H vs Q E hr h => ?_)
  · obtain ⟨G, M, v, d, rfl, _⟩ := h
    rfl
  · obtain ⟨G, M, v, d, rfl, S, hv, ok, q⟩ := h
    refine ⟨_, (pss_cons (ps_set (i := 1) sc_wrong.nd rfl (.inl rfl) (pe_call G_first_wrong (hr.mono (by omega)) (by rfl) T.g_first_wrong T.F_first_wrong.kp T.b_first_wrong .nil pass0 (pa_cons (xv 0) pa_nil)))
      (pss_cons (xs_if (PW.pt (xw_and (xt_cmp (op_eqNil K (Nat.lt_of_le_of_lt (Nat.le_add_right _ 70) (u70 hr))) (xv 1) (pe_lst pa_nil) (nomark _)) (pw_and1 (xt_cmp op_gtY (pe_call G_levels (hr.mono (by omega)) (by rfl) T.g_levels T.F_levels.kp T.b_levels .nil pass0 (pa_cons (xv 0) pa_nil)) pe_int (nomark _)))))
      (pss_one (ps_ret (pe_lst (pa_cons (xv 0) pa_nil))))
      pss_nil)
      (pss_one (ps_ret (xv 1))))), ?_⟩
    have d65 : d.depth < 65 := by have := ok.dp; omega
    refine ⟨G, M, v, d, rfl, S, hv, ok, d65, fun L G1 H1 us s1 hL hus S1 => ?_⟩
    have ul := dpa_len hus
    refine ⟨sz, fun t nt => ?_⟩
    have S2 := S1.new (o := .lst []) nt
    refine ⟨L, t, us, rfl, rfl, SqL.of (S2.st hL), SqL.of S2.hd, ?_⟩
    have S3 := S2.drop
    cases e : fb d with
    | some p =>
      have e1 : due d = some p := by unfold due; rw [e]
      rw [e] at ul
      have e2 : us.isEmpty = false := by
        cases us with
        | nil => simp at ul
        | cons _ _ => rfl
      rw [e2]
      refine ⟨ff, fun _ => ⟨ff, fun _ => q L G1 _ us s1 hL ?_ S3⟩⟩
      rw [e1, ← e]
      exact hus
    | none =>
      rw [e] at ul hus
      obtain rfl : us = [] := List.eq_nil_of_length_eq_zero ul
      refine ⟨fun _ => ⟨G1, M, v, d, rfl, S3, dp_same s1 hv, e, d65, fun G4 H4 s4 S4 => ⟨fun e4 => ?_, fun e4 => ?_⟩⟩, tt⟩
      · have e4 : decide ((5 : Int) < (lev d : Nat)) = true := e4
        have e4 := of_decide_eq_true e4
        have e1 : due d = some d := by
          unfold due
          rw [e]
          exact if_neg (by omega)
        refine ⟨sz, fun t5 nt5 => ?_⟩
        obtain ⟨G6, s6, S6, k6⟩ := Sep.mk (o := .lst [v]) S4 nt5
        have s16 := s1.trans (s4.trans s6)
        exact q t5 G6 _ [v] s16 k6 (by rw [e1]; exact .cons (dp_same s16 hv) .nil) S6
      · have e4 : decide ((5 : Int) < (lev d : Nat)) = false := e4
        have e4 := of_decide_eq_false e4
        have e1 : due d = none := by
          unfold due
          rw [e]
          exact if_pos (by omega)
        exact q L G4 H4 [] (s1.trans s4) (s4 _ _ hL) (by rw [e1]; exact .nil) S4

end
end K02
set_option Elab.async false
set_option linter.all false
set_option maxRecDepth 100000
set_option maxHeartbeats 4000000
namespace K02
open PySem PySem.Spec PyProof.Rows L2 XL
section
variable {P : Program} {w : World} {K : PySem.W.Frag} {mg : Str → Option Value} {base : Heap}
/-! ### class Form, of any thing -/
def FmD (K : PySem.W.Frag) (C : Addr) (G : Hp) (x : Addr) (d : PyData) : Prop := ∃ dx v, G x = some (.ins C dx [("_parts", v)]) ∧ Dp K G v d
theorem FmD.same {K : PySem.W.Frag} {C : Addr} {G G' : Hp} {x : Addr} {d : PyData} (e : Same G G') (h : FmD K C G x d) : FmD K C G' x d := let ⟨dx, v, h1, h2⟩ := h; ⟨dx, v, e _ _ h1, dp_same e h2⟩
theorem fmd_made {K : PySem.W.Frag} {C x dx : Addr} {v : V} {G H : Hp} {M : List (Addr × HO)} {d : PyData} (S : Sep G ((x, .ins C dx [("_parts", v)]) :: (dx, .own x) :: M) H) (hf : Dp K G v d) : ∃ G', Same G G' ∧ FmD K C G' x d ∧ Sep G' M H := by
  obtain ⟨G1, s1, S1, k1⟩ := Sep.keep S
  exact ⟨G1, s1, ⟨dx, v, k1, dp_same s1 hf⟩, S1.drop⟩
def spFInitD (K : PySem.W.Frag) (C CB : Addr) : Sp := fun vs H Q E => ∃ (G : Hp) (M : List (Addr × HO)) (x dx : Addr) (v : V) (d : PyData), vs = [.ref x, v] ∧ Sep G ((x, .ins C dx []) :: M) H ∧ Dp K G v d ∧ Okd d ∧
  (due d = none → ∀ G' H', Same G G' → Sep G' ((x, .ins C dx [("_parts", v)]) :: M) H' → Q .non H') ∧ (∀ p, due d = some p → ∀ u G1, Same G G1 → Dp K G1 u p → Rz G1 M CB [("part", u)] E)
theorem ok_Form_initD (T : Top K mg w) (pf : PySem.XExc.PF P T.x_file) {k : Nat} (G_check_form : FnOk P w K mg base (L2.CX P w) (k + 1) T.a_check_form T.d_check_form ["parts"] (spCheckG K T.C_BadForm)) :
    FnOk P w K mg base (L2.CX P w) (k + 2) T.a_Form_init T.d_Form_init ["self", "parts"] (spFInitD K T.C_Form T.C_BadForm) := by
  refine T.F_Form_init.okX sc_Form_init (fun vs H Q E h => ?_) (fun cdv A outer s H vs Q E hr h => ?_)
  · obtain ⟨G, M, x, dx, v, d, rfl, _⟩ := h
    rfl
  · obtain ⟨G, M, x, dx, v, d, rfl, S, hv, ok, q, rz⟩ := h
    refine ⟨_, (pss_cons (ps_expr (pe_call G_check_form (hr.mono (by omega)) (by rfl) T.g_check_form T.F_check_form.kp T.b_check_form .nil (passO (takes_of rfl rfl rfl rfl)) (pa_cons (xv 1) pa_nil)))
      (pss_one (ps_fld (xv 0) (xv 1) rfl))), ?_⟩
    exact ⟨G, _, v, d, rfl, S, hv, ok, fun hdu G1 H1 s1 S1 => ⟨x, T.C_Form, dx, [], rfl, S1.hd, T.cl_Form, T.na_Form__parts, by decide, q hdu _ _ s1 S1.set⟩, fun p hp u G1 s1 hu => (rz p hp u G1 s1 hu).cell [_]⟩
def spPartsF (C : Addr) : Sp := fun vs H Q _ => ∃ x dx v, vs = [.ref x] ∧ H x = some (.ins C dx [("_parts", v)]) ∧ Q v H
theorem ok_Form_parts (T : Top K mg w) {k : Nat} : FnOk P w K mg base CX0 (k + 1) T.a_Form_parts T.d_Form_parts ["self"] (spPartsF T.C_Form) := by
  refine T.F_Form_parts.ok sc_Form_parts (fun vs H Q E h => ?_) (fun cdv A outer s H vs Q E hr h => ?_)
  · obtain ⟨x, dx, v, rfl, _⟩ := h
    rfl
  · obtain ⟨x, dx, v, rfl, hx, q⟩ := h
    exact ⟨_, (pss_one (ps_ret (pe_fldK K (xv 0)))), ⟨x, T.C_Form, dx, _, _, rfl, hx, T.cl_Form, T.na_Form__parts, lk_eq, q⟩⟩
/-- a Form of d is made, or refused -/
def MadeD (K : PySem.W.Frag) (C CB : Addr) (G : Hp) (M : List (Addr × HO)) (d : PyData) (Q : VK) (E : XK) : Prop :=
  (due d = none → ∀ z G' H', Same G G' → FmD K C G' z d → Sep G' M H' → Q (.ref z) H') ∧ (∀ p, due d = some p → ∀ u G1, Same G G1 → Dp K G1 u p → Rz G1 M CB [("part", u)] E)
theorem MadeD.same {K : PySem.W.Frag} {C CB : Addr} {G G1 : Hp} {M : List (Addr × HO)} {d : PyData} {Q : VK} {E : XK} (s : Same G G1) (h : MadeD K C CB G M d Q E) : MadeD K C CB G1 M d Q E :=
  ⟨fun h0 z G' H' s' hz S' => h.1 h0 z G' H' (s.trans s') hz S', fun p hp u G2 s2 hu => h.2 p hp u G2 (s.trans s2) hu⟩
def spMadeD (K : PySem.W.Frag) (C CB : Addr) (u : Str) : Sp := fun vs H Q E => ∃ (G : Hp) (M : List (Addr × HO)) (v : V) (d : PyData), vs = [v] ∧ Sep G M H ∧ Dp K G v d ∧ Okd (.tuple [.str u, d]) ∧ MadeD K C CB G M (.tuple [.str u, d]) Q E
theorem ok_Form_constantD (T : Top K mg w) {k : Nat} (G_Form_init : FnOk P w K mg base (L2.CX P w) k T.a_Form_init T.d_Form_init ["self", "parts"] (spFInitD K T.C_Form T.C_BadForm)) : FnOk P w K mg base (L2.CX P w) (k + 2) T.a_Form_constant T.d_Form_constant ["value"] (spMadeD K T.C_Form T.C_BadForm "is") := by
  refine T.F_Form_constant.okX sc_Form_constant (fun vs H Q E h => ?_) (fun cdv A outer s H vs Q E hr h => ?_)
  · obtain ⟨G, M, v, d, rfl, _⟩ := h
    rfl
  · obtain ⟨G, M, v, d, rfl, S, hv, ok, q⟩ := h
    refine ⟨_, (pss_one (ps_ret (pe_make T.mk_Form G_Form_init (hr.mono (by omega)) (by rfl) T.g_Form T.b_Form_init .nil (passO (takes_of rfl rfl rfl rfl)) (pa_cons (pe_tup (pa_cons pe_str (pa_cons (xv 0) pa_nil))) pa_nil)))), ?_⟩
    refine ⟨sz, fun t nt => ?_⟩
    obtain ⟨G1, s1, S1, k1⟩ := Sep.mk (o := .tup [.str "is", v]) S nt
    have hs : Dp K G1 (.ref t) (.tuple [.str "is", d]) := .tup (SqT.of k1) (.cons (.str _) (.cons (dp_same s1 hv) .nil))
    refine fun z dz nz ndz ne => ?_
    refine ⟨G1, _, z, dz, .ref t, _, rfl, S1.new2 nz ndz ne, hs, ok, fun h5 G2 H2 s2 S2 => ⟨rfl, ?_⟩, fun p hp u2 G2 s2 hu2 => (q.2 p hp u2 G2 (s1.trans s2) hu2).cell [_]⟩
    obtain ⟨G3, s3, h3, S3⟩ := fmd_made S2 (dp_same s2 hs)
    exact q.1 h5 z G3 H2 (s1.trans (s2.trans s3)) h3 S3
theorem ok_Form_namedD (T : Top K mg w) {k : Nat} (G_Form_init : FnOk P w K mg base (L2.CX P w) k T.a_Form_init T.d_Form_init ["self", "parts"] (spFInitD K T.C_Form T.C_BadForm)) : FnOk P w K mg base (L2.CX P w) (k + 2) T.a_Form_named T.d_Form_named ["name"] (spMadeD K T.C_Form T.C_BadForm "get") := by
  refine T.F_Form_named.okX sc_Form_named (fun vs H Q E h => ?_) (fun cdv A outer s H vs Q E hr h => ?_)
  · obtain ⟨G, M, v, d, rfl, _⟩ := h
    rfl
  · obtain ⟨G, M, v, d, rfl, S, hv, ok, q⟩ := h
    refine ⟨_, (pss_one (ps_ret (pe_make T.mk_Form G_Form_init (hr.mono (by omega)) (by rfl) T.g_Form T.b_Form_init .nil (passO (takes_of rfl rfl rfl rfl)) (pa_cons (pe_tup (pa_cons pe_str (pa_cons (xv 0) pa_nil))) pa_nil)))), ?_⟩
    refine ⟨sz, fun t nt => ?_⟩
    obtain ⟨G1, s1, S1, k1⟩ := Sep.mk (o := .tup [.str "get", v]) S nt
    have hs : Dp K G1 (.ref t) (.tuple [.str "get", d]) := .tup (SqT.of k1) (.cons (.str _) (.cons (dp_same s1 hv) .nil))
    refine fun z dz nz ndz ne => ?_
    refine ⟨G1, _, z, dz, .ref t, _, rfl, S1.new2 nz ndz ne, hs, ok, fun h5 G2 H2 s2 S2 => ⟨rfl, ?_⟩, fun p hp u2 G2 s2 hu2 => (q.2 p hp u2 G2 (s1.trans s2) hu2).cell [_]⟩
    obtain ⟨G3, s3, h3, S3⟩ := fmd_made S2 (dp_same s2 hs)
    exact q.1 h5 z G3 H2 (s1.trans (s2.trans s3)) h3 S3
def spAddD (K : PySem.W.Frag) (C CB : Addr) : Sp := fun vs H Q E => ∃ (G : Hp) (M : List (Addr × HO)) (x y : Addr) (f g : PyData), vs = [.ref x, .ref y] ∧ Sep G M H ∧ FmD K C G x f ∧ FmD K C G y g ∧ Okd (.tuple [.str "sum", f, g]) ∧ MadeD K C CB G M (.tuple [.str "sum", f, g]) Q E
theorem ok_Form_addD (T : Top K mg w) {k : Nat} (G_Form_init : FnOk P w K mg base (L2.CX P w) k T.a_Form_init T.d_Form_init ["self", "parts"] (spFInitD K T.C_Form T.C_BadForm)) (G_Form_parts : FnOk P w K mg base CX0 k T.a_Form_parts T.d_Form_parts ["self"] (spPartsF T.C_Form)) :
    FnOk P w K mg base (L2.CX P w) (k + 2) T.a_Form_add T.d_Form_add ["self", "other"] (spAddD K T.C_Form T.C_BadForm) := by
  refine T.F_Form_add.okX sc_Form_add (fun vs H Q E h => ?_) (fun cdv A outer s H vs Q E hr h => ?_)
  · obtain ⟨G, M, x, y, f, g, rfl, _⟩ := h
    rfl
  · obtain ⟨G, M, x, y, f, g, rfl, S, ⟨dx, v, hx, hf⟩, ⟨dy, u, hy, hg⟩, ok, q⟩ := h
    refine ⟨_, (pss_one (ps_ret (pe_make T.mk_Form G_Form_init (hr.mono (by omega)) (by rfl) T.g_Form T.b_Form_init .nil (passO (takes_of rfl rfl rfl rfl)) (pa_cons (pe_tup (pa_cons pe_str (pa_cons (pe_fldK K (xv 0)) (pa_cons (pe_prop (xv 1) T.cl_Form T.pr_Form_parts G_Form_parts (hr.mono (by omega)) T.b_Form_parts .nil pass0 rfl) pa_nil)))) pa_nil)))), ?_⟩
    refine ⟨x, T.C_Form, dx, _, _, rfl, S.st hx, T.cl_Form, T.na_Form__parts, lk_eq, y, dy, _, rfl, S.st hy, y, dy, u, rfl, S.st hy, sz, fun t nt => ?_⟩
    obtain ⟨G1, s1, S1, k1⟩ := Sep.mk (o := .tup [.str "sum", v, u]) S nt
    have hs : Dp K G1 (.ref t) (.tuple [.str "sum", f, g]) := .tup (SqT.of k1) (.cons (.str _) (.cons (dp_same s1 hf) (.cons (dp_same s1 hg) .nil)))
    refine fun z dz nz ndz ne => ?_
    refine ⟨G1, _, z, dz, .ref t, _, rfl, S1.new2 nz ndz ne, hs, ok, fun h5 G2 H2 s2 S2 => ⟨rfl, ?_⟩, fun p hp u2 G2 s2 hu2 => (q.2 p hp u2 G2 (s1.trans s2) hu2).cell [_]⟩
    obtain ⟨G3, s3, h3, S3⟩ := fmd_made S2 (dp_same s2 hs)
    exact q.1 h5 z G3 H2 (s1.trans (s2.trans s3)) h3 S3
def spSumD (K : PySem.W.Frag) (C CB : Addr) : Sp := fun vs H Q E => ∃ (G : Hp) (M : List (Addr × HO)) (x r y : Addr) (f g : PyData), vs = [.ref C, .ref x, .ref r] ∧ Sep G M H ∧ G r = some (.tup [.ref y]) ∧ FmD K C G x f ∧ FmD K C G y g ∧ Okd (.tuple [.str "sum", f, g]) ∧ MadeD K C CB G M (.tuple [.str "sum", f, g]) Q E
theorem ok_Form_summedD (T : Top K mg w) {k : Nat} (G_Form_init : FnOk P w K mg base (L2.CX P w) k T.a_Form_init T.d_Form_init ["self", "parts"] (spFInitD K T.C_Form T.C_BadForm)) (G_Form_parts : FnOk P w K mg base CX0 k T.a_Form_parts T.d_Form_parts ["self"] (spPartsF T.C_Form)) :
    FnR P w K mg base (L2.CX P w) (k + 2) T.a_Form_summed (spS 2 (spSumD K T.C_Form T.C_BadForm)) := by
  refine okSX (ps := ["cls", "first"]) T.F_Form_summed sc_Form_summed T.b_Form_summed (fun cdv A outer s H vs Q E hr h => ?_)
  obtain ⟨G, M, x, r, y, f, g, rfl, S, hr', hx, hy, ok, q⟩ := h
  refine ⟨_, (pss_cons (ps_set (i := 3) sc_Form_summed.nd rfl (.inl rfl) (xv 1))
      (pss_cons (ps_for (passes_of rfl) rfl (pi_tupK K (xv 2)) (pg_name (i := 4) sc_Form_summed.nd rfl (.inl rfl))
      (pss_one (ps_set (i := 3) sc_Form_summed.nd rfl (.inl rfl) (pe_makeL (xv 0) T.mk_Form G_Form_init (hr.mono (by omega)) T.b_Form_init .nil (passO (takes_of rfl rfl rfl rfl)) (pa_cons (pe_tup (pa_cons pe_str (pa_cons (pe_prop (xv 3) T.cl_Form T.pr_Form_parts G_Form_parts (hr.mono (by omega)) T.b_Form_parts .nil pass0 rfl) (pa_cons (pe_prop (xv 4) T.cl_Form T.pr_Form_parts G_Form_parts (hr.mono (by omega)) T.b_Form_parts .nil pass0 rfl) pa_nil)))) pa_nil)))))
      (pss_one (ps_ret (xv 3))))), ?_⟩
  refine ⟨r, rfl, ⟨_, SqT.of (S.st hr')⟩, for_tup (xs := [.ref y]) (fun i σ H' => ∃ (a : Addr) (y4 : Option V) (G' : Hp), σ = [some (.ref T.C_Form), some (.ref x), some (.ref r), some (.ref a), y4] ∧ Same G G' ∧ ((i = 0 ∧ a = x) ∨ (i = 1 ∧ due (.tuple [.str "sum", f, g]) = none ∧ FmD K T.C_Form G' a (.tuple [.str "sum", f, g]))) ∧ Sep G' M H')
    ⟨x, _, G, rfl, Same.refl _, .inl ⟨rfl, rfl⟩, S⟩ (fun i σ H' _ h => ?_) (fun i z σ H' hz h => ?_) (fun σ H' h => ?_)⟩
  · obtain ⟨_, _, G', _, s', _, S'⟩ := h
    exact SqT.of (S'.st (s' _ _ hr'))
  · obtain ⟨a, y4, G', rfl, s', h0, S'⟩ := h
    have il : i < 1 := (List.getElem?_eq_some_iff.mp hz).1
    obtain rfl : i = 0 := by omega
    obtain rfl : z = .ref y := by simpa using hz.symm
    obtain rfl : a = x := by
      rcases h0 with ⟨_, e⟩ | ⟨e, _⟩
      · exact e
      · exact nomatch e
    obtain ⟨dx, v, hx', hf⟩ := hx.same s'
    obtain ⟨dy, u, hy', hg⟩ := hy.same s'
    refine ⟨rfl, a, dx, _, rfl, S'.st hx', a, dx, v, rfl, S'.st hx', y, dy, _, rfl, S'.st hy', y, dy, u, rfl, S'.st hy', sz, fun t1 nt1 => ?_⟩
    obtain ⟨G1, s1, S1, k1⟩ := Sep.mk (o := .tup [.str "sum", v, u]) S' nt1
    have hs : Dp K G1 (.ref t1) (.tuple [.str "sum", f, g]) := .tup (SqT.of k1) (.cons (.str _) (.cons (dp_same s1 hf) (.cons (dp_same s1 hg) .nil)))
    refine fun zz dzz nz ndz ne => ?_
    refine ⟨G1, _, zz, dzz, .ref t1, _, rfl, S1.new2 nz ndz ne, hs, ok, fun h5 G2 H2 s2 S2 => ⟨rfl, ?_⟩, fun p hp u2 G2 s2 hu2 => (q.2 p hp u2 G2 (s'.trans (s1.trans s2)) hu2).cell [_]⟩
    obtain ⟨G3, s3, h3, S3⟩ := fmd_made S2 (dp_same s2 hs)
    exact ⟨zz, _, G3, rfl, s'.trans (s1.trans (s2.trans s3)), .inr ⟨rfl, h5, h3⟩, S3⟩
  · obtain ⟨a, y4, G', rfl, s', h0, S'⟩ := h
    rcases h0 with ⟨e, _⟩ | ⟨_, h5, ha⟩
    · exact nomatch e
    · exact q.1 h5 a G' H' s' ha S'

end
end K02
set_option Elab.async false
set_option linter.all false
set_option maxRecDepth 100000
set_option maxHeartbeats 4000000
namespace K02
open PySem PySem.Spec PyProof.Rows L2 XL
section
variable {P : Program} {w : World} {K : PySem.W.Frag} {mg : Str → Option Value} {base : Heap}
/-! ### the error that is due -/
theorem _root_.L2H.RoomH.u190 {k : Nat} {A : Around} (r : L2H.RoomH k A) : A.units + 190 < cLine := by have := r.un; omega
theorem tnil_one {σ : L2.St} {H : Hp} {q : List V → Hp → Prop} (h : q [] H) : tNil σ H q := h
theorem tcb_one {r : List V → Hp → VK → Prop} {σ : L2.St} {i : Nat} {x : V} {H : Hp} {Q : VK} (hx : nth σ i = some x) (h : r [x] H Q) : tCB r (tCons (xVar i) tNil) σ H Q := by
  unfold tCB tCons xVar
  rw [hx]
  exact h
def spDueErr (K : PySem.W.Frag) (C : Addr) : Addr → Value → Option Addr → Sp := fun a cls d vs H Q _ => ∃ (dd L : Addr) (u u2 : V) (p : PyData), vs = [.ref a, .ref L] ∧ cls = .ref C ∧ d = some dd ∧ H dd = some (.xd [("part", u)]) ∧ SqL K H L [u2] ∧ Dp K H u p ∧ Dp K H u2 p ∧ Okd p ∧ Q (.bl true) H
theorem ok_due_error (T : Top K mg w) (pf : PySem.XExc.PF P T.x_file) {k : Nat} : FnE P w K mg base (k + 1) T.a_due_error T.d_due_error ["_law_error", "_law_due"] (spDueErr K T.C_BadForm) := by
  refine okErr T.F_due_error sc_due_error (fun a cls d vs H Q E h => ?_) (fun cdv A outer s H vs Q E a oe cls d hr hg hz hf hsp => ?_)
  · obtain ⟨dd, L, u, u2, p, rfl, _⟩ := h
    rfl
  · obtain ⟨dd, L, u, u2, p, rfl, rfl, rfl, hd, hL, hu, hu2, ok, q⟩ := hsp
    refine ⟨_, (pss_cons (xs_if (PW.pt (xw_or (pt_not (xt_truK K (pe_callB (call_isP K List.mem_cons_self hz hf) (by rfl) T.m_isinstance (by decide +kernel) (pa_cons (xv 0) (pa_cons (pe_glob (v := .ref T.C_BadForm) (by rfl) T.g_BadForm rfl) pa_nil))))) (pw_or1 (pt_not (xt_truK K (pe_callB (call_isP K List.mem_cons_self hz hf) (by rfl) T.m_isinstance (by decide +kernel) (pa_cons (xv 0) (pa_cons (pe_bltn (v := .ty "ValueError") (by rfl) T.m_ValueError (by decide +kernel) rfl) pa_nil))))))))
      (pss_one (ps_ret pe_bl))
      pss_nil)
      (pss_cons (xs_if (PW.pt (xw_or (xt_truK K (pe_callB (call_isP K List.mem_cons_self hz hf) (by rfl) T.m_isinstance (by decide +kernel) (pa_cons (xv 0) (pa_cons (pe_glob (v := .ref T.C_NoName) (by rfl) T.g_NoName rfl) pa_nil)))) (xw_or (xt_truK K (pe_callB (call_isP K List.mem_cons_self hz hf) (by rfl) T.m_isinstance (by decide +kernel) (pa_cons (xv 0) (pa_cons (pe_glob (v := .ref T.C_TooMany) (by rfl) T.g_TooMany rfl) pa_nil)))) (pw_or1 (xt_truK K (pe_callB (call_isP K List.mem_cons_self hz hf) (by rfl) T.m_isinstance (by decide +kernel) (pa_cons (xv 0) (pa_cons (pe_glob (v := .ref T.C_BadNames) (by rfl) T.g_BadNames rfl) pa_nil))))))))
      (pss_one (ps_ret pe_bl))
      pss_nil)
      (pss_one (ps_ret (xe_and (pe_cmpR (op_eqLK K hr.u190) (pe_callB (cr_lenK K) (by rfl) T.m_len (by decide +kernel) (pa_cons (xv 1) pa_nil)) pe_int (nomark _)) (pe_one (pe_cmpR (op_eqLK K hr.u190) (pe_callB (call_reprE K hg (by have z := u70H hr; exact z)) (by rfl) T.m_repr (by decide +kernel) (pa_cons (pe_xfP T.xf_BadForm (T.x_BadForm P pf).noN List.mem_cons_self hz hf (xv 0)) pa_nil)) (pe_callB (call_reprE K hg (by have z := u70H hr; exact z)) (by rfl) T.m_repr (by decide +kernel) (pa_cons (pe_ix (ix_k K) (xv 1) pe_int (fun _ _ => rfl)) pa_nil)) (nomark _)))))))), ?_⟩
    refine ⟨T.C_BadForm, dd, _, true, rfl, rfl, hd, T.xc_BadForm, .inl ⟨_, _, rfl, fun u r => r, if_pos (beq_self_eq_true _)⟩, ff, fun _ => ?_⟩
    refine ⟨T.C_BadForm, dd, _, true, rfl, rfl, hd, T.xc_BadForm, .inl ⟨_, _, rfl, fun u r => r, T.kv_BadForm⟩, ff, fun _ => ?_⟩
    refine ⟨T.C_BadForm, dd, _, false, rfl, rfl, hd, T.xc_BadForm, .inl ⟨_, _, rfl, fun u r => r, T.ki_BadForm_NoName⟩, ff, fun _ => ?_⟩
    refine ⟨T.C_BadForm, dd, _, false, rfl, rfl, hd, T.xc_BadForm, .inl ⟨_, _, rfl, fun u r => r, T.ki_BadForm_TooMany⟩, ff, fun _ => ?_⟩
    refine ⟨T.C_BadForm, dd, _, false, rfl, rfl, hd, T.xc_BadForm, .inl ⟨_, _, rfl, fun u r => r, T.ki_BadForm_BadNames⟩, ff, fun _ => ?_⟩
    refine ⟨_, .inl hL, fun _ => ?_, fun e => absurd e (by simp)⟩
    refine ⟨rfl, rfl, dd, _, _, rfl, hd, lk_eq, ?_⟩
    refine tnil_one ?_
    refine rep_e rfl hu ok (by decide) (by decide) ?_
    refine ⟨_, _, .inl hL, atI_nat (j := 0) rfl, ?_⟩
    refine tnil_one ?_
    refine rep_e rfl hu2 ok (by decide) (by decide) ?_
    show Q (.bl (decide (p.shown = p.shown))) H
    rw [decide_eq_true rfl]
    exact q
/-- what the except suite asks of the error -/
theorem due_us {K : PySem.W.Frag} {G : Hp} {us : List V} {d p : PyData} (hus : DpAll K G us (due d).toList) (e : due d = some p) : ∃ u2, us = [u2] ∧ Dp K G u2 p := by
  rw [e] at hus
  obtain ⟨u2, r, rfl, hu2, hr⟩ := dpa_cons hus
  cases hr
  exact ⟨u2, rfl, hu2⟩
theorem due_tup {d : PyData} (h : due d = none) : ∃ r, d = .tuple r := by
  unfold due at h
  cases e : fb d with
  | some p => rw [e] at h; exact nomatch h
  | none =>
    obtain ⟨x, r, rfl, _⟩ := none_at e
    exact ⟨_, rfl⟩
mutual
theorem fb_ok : ∀ (d p : PyData), fb d = some p → Okd d → Okd p
  | .tuple (h :: r), p, e, ok => by
    simp only [fb] at e
    by_cases z1 : partOk (.tuple (h :: r)) = true
    · rw [if_pos z1] at e
      by_cases z2 : leafH h = true
      · rw [if_pos z2] at e
        exact nomatch e
      · rw [if_neg z2] at e
        exact fbs_ok r p e fun y hy => ok.tl hy
    · rw [if_neg z1] at e
      cases e
      exact ok
  | .tuple [], p, e, ok => by simp only [fb] at e; cases e; exact ok
  | .none, p, e, ok => by simp only [fb] at e; cases e; exact ok
  | .bool _, p, e, ok => by simp only [fb] at e; cases e; exact ok
  | .int _, p, e, ok => by simp only [fb] at e; cases e; exact ok
  | .str _, p, e, ok => by simp only [fb] at e; cases e; exact ok
  | .list _, p, e, ok => by simp only [fb] at e; cases e; exact ok
  | .dict _, p, e, ok => by simp only [fb] at e; cases e; exact ok
theorem fbs_ok : ∀ (r : List PyData) (p : PyData), fbs r = some p → (∀ y ∈ r, Okd y) → Okd p
  | [], _, e, _ => nomatch e
  | x :: r, p, e, ok => by
    simp only [fbs] at e
    cases z : fb x with
    | some y =>
      rw [z] at e
      cases e
      exact fb_ok x p z (ok x List.mem_cons_self)
    | none =>
      rw [z] at e
      exact fbs_ok r p e fun y hy => ok y (List.mem_cons_of_mem _ hy)
end
theorem due_ok {d p : PyData} (h : due d = some p) (ok : Okd d) : Okd p := by
  unfold due at h
  cases e : fb d with
  | none =>
    rw [e] at h
    by_cases z : lev d ≤ 5
    · simp only [if_pos z] at h
      exact nomatch h
    · simp only [if_neg z] at h
      cases h
      exact ok
  | some p2 =>
    rw [e] at h
    cases h
    exact (fb_ok d p e) ok
theorem Okd.sml {d : PyData} (h : Okd d) : d.shown.length ≤ sizeLine := small (by have := shown_tb d; have := h.tb; omega)
theorem Okd.d64 {d : PyData} (h : Okd d) : d.depth ≤ 64 := h.dp
def spJudged (K : PySem.W.Frag) : Sp := fun vs H Q _ => ∃ (G : Hp) (M : List (Addr × HO)) (v : V) (d : PyData), vs = [v] ∧ Sep G M H ∧ Dp K G v d ∧ Okd d ∧ ∀ G' H', Same G G' → Sep G' M H' → Q (.bl true) H'
theorem ok_judged (T : Top K mg w) (pf : PySem.XExc.PF P T.x_file) {k : Nat} (G_wrong : FnOk P w K mg base CX0 k T.a_wrong T.d_wrong ["_law_parts"] (spWrong K)) (G_Form_init : FnOk P w K mg base (L2.CX P w) k T.a_Form_init T.d_Form_init ["self", "parts"] (spFInitD K T.C_Form T.C_BadForm)) (G_Form_parts : FnOk P w K mg base CX0 k T.a_Form_parts T.d_Form_parts ["self"] (spPartsF T.C_Form))
    (H_due_error : FnE P w K mg base k T.a_due_error T.d_due_error ["_law_error", "_law_due"] (spDueErr K T.C_BadForm)) :
    FnG P w K mg base CX0 (k + 3) T.a_judged T.d_judged ["_law_parts"] (spJudged K) := by
  refine okG T.F_judged sc_judged (fun vs H Q E h => ?_) (fun cdv A outer s H vs Q E hr hg h => ?_)
  · obtain ⟨G, M, v, d, rfl, _⟩ := h
    rfl
  · obtain ⟨G, M, v, d, rfl, S, hv, ok, q⟩ := h
    refine ⟨_, (pss_cons (ps_set (i := 1) sc_judged.nd rfl (.inl rfl) (pe_call G_wrong (hr.mono (by omega)) (by rfl) T.g_wrong T.F_wrong.kp T.b_wrong .nil pass0 (pa_cons (xv 0) pa_nil)))
      (pss_cons (ps_set (i := 2) sc_judged.nd rfl (.inl rfl) (pe_callB (call_reprE K hg (by have z := u70 hr; exact z)) (by rfl) T.m_repr (by decide +kernel) (pa_cons (xv 0) pa_nil)))
      (pss_cons (ps_set (i := 3) sc_judged.nd rfl (.inl rfl) pe_non)
      (pss_cons (ps_try_as (i := 4) (Wout := fun _ _ _ _ => False) rfl rfl sc_judged.nd rfl rfl ⟨rfl, by decide, Or.inl T.g_ScreenError⟩ takes0
      (fun W pn xe tk _ => (pss_one (ps_set (i := 3) sc_judged.nd rfl (.inl rfl) (pe_makeT T.mk_Form G_Form_init (hr.mono (by omega)) (by rfl) T.g_Form T.b_Form_init .nil (fun σ => passAt tk σ) (pa_cons (xv 0) pa_nil)))))
      (fun a oe cls d pn hz hf => (pss_one (ps_ret (xe_and (pe_callErr H_due_error (roomQ hr (by omega)) hg List.mem_cons_self hz hf (by rfl) T.g_due_error T.F_due_error.kp T.b_due_error pass0 (pa_cons (xv 4) (pa_cons (xv 1) pa_nil))) (pe_one (pe_cmpR (op_eqLK K hr.u190) (pe_callB (call_reprE K hg (by have z := u70 hr; exact z)) (by rfl) T.m_repr (by decide +kernel) (pa_cons (xv 0) pa_nil)) (xv 2) (nomark _))))))))
      (pss_one (ps_ret (xe_and (pe_cmpR (op_eqNil K (Nat.lt_of_le_of_lt (Nat.le_add_right _ 70) (u70 hr))) (xv 1) (pe_lst pa_nil) (nomark _)) (xe_and (pe_callB (call_isK K) (by rfl) T.m_isinstance (by decide +kernel) (pa_cons (pe_prop (xv 3) T.cl_Form T.pr_Form_parts G_Form_parts (hr.mono (by omega)) T.b_Form_parts .nil pass0 rfl) (pa_cons (pe_bltn (v := .ty "tuple") (by rfl) T.m_tuple (by decide +kernel) rfl) pa_nil))) (xe_and (pe_cmpR (op_eqLK K hr.u190) (pe_callB (call_reprE K hg (by have z := u70 hr; exact z)) (by rfl) T.m_repr (by decide +kernel) (pa_cons (pe_prop (xv 3) T.cl_Form T.pr_Form_parts G_Form_parts (hr.mono (by omega)) T.b_Form_parts .nil pass0 rfl) pa_nil)) (xv 2) (nomark _)) (pe_one (pe_cmpR (op_eqLK K hr.u190) (pe_callB (call_reprE K hg (by have z := u70 hr; exact z)) (by rfl) T.m_repr (by decide +kernel) (pa_cons (xv 0) pa_nil)) (xv 2) (nomark _)))))))))))), ?_⟩
    refine ⟨G, M, v, d, rfl, S, hv, ok, fun L G1 H1 us s1 hL hus S1 => ?_⟩
    refine ⟨v, d, rfl, dp_same S1.1 (dp_same s1 hv), ok.sw, ok.d64, ok.sml, ?_⟩
    refine fun x dx nx ndx ne => ?_
    refine ⟨G1, _, x, dx, v, d, rfl, S1.new2 nx ndx ne, dp_same s1 hv, ok, fun h5 G2 H2 s2 S2 => ⟨rfl, ?_⟩, fun p hp u G2 s2 hu => ?_⟩
    · obtain ⟨G3, s3, ⟨dz, v3, hx3, hv3⟩, S3⟩ := fmd_made S2 (dp_same (s1.trans s2) hv)
      have s13 := s1.trans (s2.trans s3)
      refine ⟨sz, fun t nt => ?_⟩
      obtain ⟨G4, s4, S4, k4⟩ := Sep.mk (o := .lst []) S3 nt
      have hL4 := SqL.of (K := K) (S4.st (s4 _ _ ((s2.trans s3) _ _ hL)))
      rw [h5] at hus
      cases hus
      refine ⟨L, t, _, rfl, rfl, hL4, SqL.of (S4.st k4), fun _ => ?_, tt⟩
      have hx4 := S4.st (s4 _ _ hx3)
      have hv4 := dp_same S4.1 (dp_same s4 hv3)
      obtain ⟨r, rfl⟩ := due_tup h5
      obtain ⟨p3, xs3, rfl, hp3, _⟩ := dp_tup hv4
      refine ⟨x, dz, _, rfl, hx4, x, dz, _, rfl, hx4, _, _, _, _, true, rfl, .ty _, sqT_ty hp3, kit_ty (by decide +kernel), fun _ => ?_, tt⟩
      refine ⟨x, dz, _, rfl, hx4, x, dz, _, rfl, hx4, _, _, rfl, hv4, ok.sw, ok.d64, ok.sml, ?_⟩
      show (_ → _) ∧ _
      refine ⟨fun _ => ?_, fun e => ?_⟩
      · refine ⟨v, _, rfl, dp_same S4.1 (dp_same (s13.trans s4) hv), ok.sw, ok.d64, ok.sml, ?_⟩
        show Q (.bl (decide (_ = _))) _
        rw [decide_eq_true rfl]
        exact q _ _ (s13.trans s4) S4
      · exact absurd e (by simp)
    · refine fun GE HE N dd sE SE ndd => ?_
      have S3 := SE.sub (M' := M) ((List.sublist_cons_self _ _).trans (List.sublist_append_right N _))
      have S4 := S3.newG (o := .xd [("part", u)]) ndd
      have s4 := S3.grow (o := .xd [("part", u)]) ndd
      have hd1 : (upd GE dd (.xd [("part", u)])) dd = some (.xd [("part", u)]) := upd_same
      have s14 := s1.trans (s2.trans (sE.trans s4))
      have s24 := s2.trans (sE.trans s4)
      refine ⟨true, T.em_BadForm_ScreenError, fun _ ea na => ?_, tt⟩
      obtain ⟨u2, rfl, hu2⟩ := due_us hus hp
      refine ⟨dd, L, u, u2, p, rfl, rfl, rfl, S4.st hd1, SqL.of (S4.st (s24 _ _ hL)), dp_same S4.1 (dp_same (sE.trans s4) hu), dp_same S4.1 (dp_same s24 hu2), due_ok hp ok, ?_⟩
      refine ⟨fun _ => ?_, tt⟩
      refine ⟨v, d, rfl, dp_same S4.1 (dp_same s14 hv), ok.sw, ok.d64, ok.sml, ?_⟩
      show Q (.bl (decide (d.shown = d.shown))) _
      rw [decide_eq_true rfl]
      exact q _ _ s14 S4

end
end K02
set_option Elab.async false
set_option linter.all false
set_option maxRecDepth 100000
set_option maxHeartbeats 4000000
namespace K02
open PySem PySem.Spec PyProof.Rows L2 XL
section
variable {P : Program} {w : World} {K : PySem.W.Frag} {mg : Str → Option Value} {base : Heap}
/-! ### constant, named, sums -/
theorem ok_Form_partsQ (T : Top K mg w) {k : Nat} : FnQ P w K mg base (k + 1) T.a_Form_parts T.d_Form_parts ["self"] (spPartsF T.C_Form) := by
  refine okQ T.F_Form_parts sc_Form_parts (fun vs H Q E h => ?_) (fun cdv A outer s H vs Q E p hr h => ?_)
  · obtain ⟨x, dx, v, rfl, _⟩ := h
    rfl
  · obtain ⟨x, dx, v, rfl, hx, q⟩ := h
    exact ⟨_, (pss_one (ps_ret (pe_fldK K (xv 0)))), ⟨x, T.C_Form, dx, _, _, rfl, hx, T.cl_Form, T.na_Form__parts, lk_eq, q⟩⟩
def spCst (K : PySem.W.Frag) (u : Str) : Sp := fun vs H Q _ => ∃ (G : Hp) (M : List (Addr × HO)) (v : V) (d : PyData), vs = [v] ∧ Sep G M H ∧ Dp K G v d ∧ Okd (.tuple [.str u, d]) ∧ ∀ G' H', Same G G' → Sep G' M H' → Q (.bl true) H'
theorem ok_constant (T : Top K mg w) (pf : PySem.XExc.PF P T.x_file) {k : Nat} (G_wrong : FnOk P w K mg base CX0 k T.a_wrong T.d_wrong ["_law_parts"] (spWrong K)) (G_Form_constant : FnOk P w K mg base (L2.CX P w) k T.a_Form_constant T.d_Form_constant ["value"] (spMadeD K T.C_Form T.C_BadForm "is")) (G_Form_parts : FnOk P w K mg base CX0 k T.a_Form_parts T.d_Form_parts ["self"] (spPartsF T.C_Form))
    (H_due_error : FnE P w K mg base k T.a_due_error T.d_due_error ["_law_error", "_law_due"] (spDueErr K T.C_BadForm)) :
    FnG P w K mg base CX0 (k + 3) T.a_constant T.d_constant ["_law_value"] (spCst K "is") := by
  refine okG T.F_constant sc_constant (fun vs H Q E h => ?_) (fun cdv A outer s H vs Q E hr hg h => ?_)
  · obtain ⟨G, M, v, d, rfl, _⟩ := h
    rfl
  · obtain ⟨G, M, v, d, rfl, S, hv, ok, q⟩ := h
    refine ⟨_, (pss_cons (ps_set (i := 1) sc_constant.nd rfl (.inl rfl) (pe_call G_wrong (hr.mono (by omega)) (by rfl) T.g_wrong T.F_wrong.kp T.b_wrong .nil pass0 (pa_cons (pe_tup (pa_cons pe_str (pa_cons (xv 0) pa_nil))) pa_nil)))
      (pss_cons (ps_set (i := 2) sc_constant.nd rfl (.inl rfl) pe_non)
      (pss_cons (ps_try_as (i := 3) (Wout := fun _ _ _ _ => False) rfl rfl sc_constant.nd rfl rfl ⟨rfl, by decide, Or.inl T.g_ScreenError⟩ takes0
      (fun W pn xe tk _ => (pss_one (ps_set (i := 2) sc_constant.nd rfl (.inl rfl) (pe_smethT (pe_glob (v := .ref T.C_Form) (by rfl) T.g_Form rfl) T.cr_Form T.sm_Form_constant G_Form_constant (hr.mono (by omega)) T.b_Form_constant (fun σ => passAt tk σ) (pa_cons (xv 0) pa_nil)))))
      (fun a oe cls d pn hz hf => (pss_one (ps_ret (pe_callErr H_due_error (roomQ hr (by omega)) hg List.mem_cons_self hz hf (by rfl) T.g_due_error T.F_due_error.kp T.b_due_error pass0 (pa_cons (xv 3) (pa_cons (xv 1) pa_nil)))))))
      (pss_one (ps_ret (xe_and (pe_cmpR (op_eqNil K (Nat.lt_of_le_of_lt (Nat.le_add_right _ 70) (u70 hr))) (xv 1) (pe_lst pa_nil) (nomark _)) (pe_one (pe_cmpR (op_eqLK K hr.u190) (pe_callB (call_reprE K hg (by have z := u70 hr; exact z)) (by rfl) T.m_repr (by decide +kernel) (pa_cons (pe_prop (xv 2) T.cl_Form T.pr_Form_parts G_Form_parts (hr.mono (by omega)) T.b_Form_parts .nil pass0 rfl) pa_nil)) (pe_callB (call_reprE K hg (by have z := u70 hr; exact z)) (by rfl) T.m_repr (by decide +kernel) (pa_cons (pe_tup (pa_cons pe_str (pa_cons (xv 0) pa_nil))) pa_nil)) (nomark _))))))))), ?_⟩
    refine ⟨sz, fun t0 nt0 => ?_⟩
    obtain ⟨G0, s0, S0, k0⟩ := Sep.mk (o := .tup [.str "is", v]) S nt0
    have h0 : Dp K G0 (.ref t0) (.tuple [.str "is", d]) := .tup (SqT.of k0) (.cons (.str _) (.cons (dp_same s0 hv) .nil))
    refine ⟨G0, M, .ref t0, _, rfl, S0, h0, ok, fun L G1 H1 us s1 hL hus S1 => ?_⟩
    have s01 := s0.trans s1
    refine ⟨rfl, G1, M, v, d, rfl, S1, dp_same s01 hv, ok, fun h5 z G3 H3 s3 hz S3 => ?_, fun p hp u G2 s2 hu => ?_⟩
    · obtain ⟨dz, v3, hx3, hv3⟩ := hz
      have s13 := s01.trans s3
      refine ⟨sz, fun t nt => ?_⟩
      obtain ⟨G4, s4, S4, k4⟩ := Sep.mk (o := .lst []) S3 nt
      have hL4 := SqL.of (K := K) (S4.st (s4 _ _ (s3 _ _ hL)))
      rw [h5] at hus
      cases hus
      refine ⟨L, t, _, rfl, rfl, hL4, SqL.of (S4.st k4), fun _ => ?_, tt⟩
      have hx4 := S4.st (s4 _ _ hx3)
      have hv4 := dp_same S4.1 (dp_same s4 hv3)
      refine ⟨z, dz, _, rfl, hx4, z, dz, _, rfl, hx4, _, _, rfl, hv4, ok.sw, ok.d64, ok.sml, ?_⟩
      refine ⟨sz, fun t5 nt5 => ?_⟩
      obtain ⟨G5, s5, S5, k5⟩ := Sep.mk (o := .tup [.str "is", v]) S4 nt5
      have s15 := s13.trans (s4.trans s5)
      have hv5 : Dp K G5 (.ref t5) (.tuple [.str "is", d]) := .tup (SqT.of k5) (.cons (.str _) (.cons (dp_same s15 hv) .nil))
      refine ⟨_, _, rfl, dp_same S5.1 hv5, ok.sw, ok.d64, ok.sml, ?_⟩
      show Q (.bl (decide (_ = _))) _
      rw [decide_eq_true rfl]
      exact q _ _ s15 S5
    · refine fun GE HE N dd sE SE ndd => ?_
      have S3 := SE.sub (M' := M) (List.sublist_append_right N _)
      have S4 := S3.newG (o := .xd [("part", u)]) ndd
      have s4 := S3.grow (o := .xd [("part", u)]) ndd
      have hd1 : (upd GE dd (.xd [("part", u)])) dd = some (.xd [("part", u)]) := upd_same
      have s24 := s2.trans (sE.trans s4)
      refine ⟨true, T.em_BadForm_ScreenError, fun _ ea na => ?_, tt⟩
      obtain ⟨u2, rfl, hu2⟩ := due_us hus hp
      exact ⟨dd, L, u, u2, p, rfl, rfl, rfl, S4.st hd1, SqL.of (S4.st (s24 _ _ hL)), dp_same S4.1 (dp_same (sE.trans s4) hu), dp_same S4.1 (dp_same s24 hu2), due_ok hp ok, q _ _ (s01.trans s24) S4⟩
theorem ok_named (T : Top K mg w) (pf : PySem.XExc.PF P T.x_file) {k : Nat} (G_wrong : FnOk P w K mg base CX0 k T.a_wrong T.d_wrong ["_law_parts"] (spWrong K)) (G_Form_named : FnOk P w K mg base (L2.CX P w) k T.a_Form_named T.d_Form_named ["name"] (spMadeD K T.C_Form T.C_BadForm "get")) (G_Form_parts : FnOk P w K mg base CX0 k T.a_Form_parts T.d_Form_parts ["self"] (spPartsF T.C_Form))
    (H_due_error : FnE P w K mg base k T.a_due_error T.d_due_error ["_law_error", "_law_due"] (spDueErr K T.C_BadForm)) :
    FnG P w K mg base CX0 (k + 3) T.a_named T.d_named ["_law_value"] (spCst K "get") := by
  refine okG T.F_named sc_named (fun vs H Q E h => ?_) (fun cdv A outer s H vs Q E hr hg h => ?_)
  · obtain ⟨G, M, v, d, rfl, _⟩ := h
    rfl
  · obtain ⟨G, M, v, d, rfl, S, hv, ok, q⟩ := h
    refine ⟨_, (pss_cons (ps_set (i := 1) sc_named.nd rfl (.inl rfl) (pe_call G_wrong (hr.mono (by omega)) (by rfl) T.g_wrong T.F_wrong.kp T.b_wrong .nil pass0 (pa_cons (pe_tup (pa_cons pe_str (pa_cons (xv 0) pa_nil))) pa_nil)))
      (pss_cons (ps_set (i := 2) sc_named.nd rfl (.inl rfl) pe_non)
      (pss_cons (ps_try_as (i := 3) (Wout := fun _ _ _ _ => False) rfl rfl sc_named.nd rfl rfl ⟨rfl, by decide, Or.inl T.g_ScreenError⟩ takes0
      (fun W pn xe tk _ => (pss_one (ps_set (i := 2) sc_named.nd rfl (.inl rfl) (pe_smethT (pe_glob (v := .ref T.C_Form) (by rfl) T.g_Form rfl) T.cr_Form T.sm_Form_named G_Form_named (hr.mono (by omega)) T.b_Form_named (fun σ => passAt tk σ) (pa_cons (xv 0) pa_nil)))))
      (fun a oe cls d pn hz hf => (pss_one (ps_ret (pe_callErr H_due_error (roomQ hr (by omega)) hg List.mem_cons_self hz hf (by rfl) T.g_due_error T.F_due_error.kp T.b_due_error pass0 (pa_cons (xv 3) (pa_cons (xv 1) pa_nil)))))))
      (pss_one (ps_ret (xe_and (pe_cmpR (op_eqNil K (Nat.lt_of_le_of_lt (Nat.le_add_right _ 70) (u70 hr))) (xv 1) (pe_lst pa_nil) (nomark _)) (pe_one (pe_cmpR (op_eqLK K hr.u190) (pe_callB (call_reprE K hg (by have z := u70 hr; exact z)) (by rfl) T.m_repr (by decide +kernel) (pa_cons (pe_prop (xv 2) T.cl_Form T.pr_Form_parts G_Form_parts (hr.mono (by omega)) T.b_Form_parts .nil pass0 rfl) pa_nil)) (pe_callB (call_reprE K hg (by have z := u70 hr; exact z)) (by rfl) T.m_repr (by decide +kernel) (pa_cons (pe_tup (pa_cons pe_str (pa_cons (xv 0) pa_nil))) pa_nil)) (nomark _))))))))), ?_⟩
    refine ⟨sz, fun t0 nt0 => ?_⟩
    obtain ⟨G0, s0, S0, k0⟩ := Sep.mk (o := .tup [.str "get", v]) S nt0
    have h0 : Dp K G0 (.ref t0) (.tuple [.str "get", d]) := .tup (SqT.of k0) (.cons (.str _) (.cons (dp_same s0 hv) .nil))
    refine ⟨G0, M, .ref t0, _, rfl, S0, h0, ok, fun L G1 H1 us s1 hL hus S1 => ?_⟩
    have s01 := s0.trans s1
    refine ⟨rfl, G1, M, v, d, rfl, S1, dp_same s01 hv, ok, fun h5 z G3 H3 s3 hz S3 => ?_, fun p hp u G2 s2 hu => ?_⟩
    · obtain ⟨dz, v3, hx3, hv3⟩ := hz
      have s13 := s01.trans s3
      refine ⟨sz, fun t nt => ?_⟩
      obtain ⟨G4, s4, S4, k4⟩ := Sep.mk (o := .lst []) S3 nt
      have hL4 := SqL.of (K := K) (S4.st (s4 _ _ (s3 _ _ hL)))
      rw [h5] at hus
      cases hus
      refine ⟨L, t, _, rfl, rfl, hL4, SqL.of (S4.st k4), fun _ => ?_, tt⟩
      have hx4 := S4.st (s4 _ _ hx3)
      have hv4 := dp_same S4.1 (dp_same s4 hv3)
      refine ⟨z, dz, _, rfl, hx4, z, dz, _, rfl, hx4, _, _, rfl, hv4, ok.sw, ok.d64, ok.sml, ?_⟩
      refine ⟨sz, fun t5 nt5 => ?_⟩
      obtain ⟨G5, s5, S5, k5⟩ := Sep.mk (o := .tup [.str "get", v]) S4 nt5
      have s15 := s13.trans (s4.trans s5)
      have hv5 : Dp K G5 (.ref t5) (.tuple [.str "get", d]) := .tup (SqT.of k5) (.cons (.str _) (.cons (dp_same s15 hv) .nil))
      refine ⟨_, _, rfl, dp_same S5.1 hv5, ok.sw, ok.d64, ok.sml, ?_⟩
      show Q (.bl (decide (_ = _))) _
      rw [decide_eq_true rfl]
      exact q _ _ s15 S5
    · refine fun GE HE N dd sE SE ndd => ?_
      have S3 := SE.sub (M' := M) (List.sublist_append_right N _)
      have S4 := S3.newG (o := .xd [("part", u)]) ndd
      have s4 := S3.grow (o := .xd [("part", u)]) ndd
      have hd1 : (upd GE dd (.xd [("part", u)])) dd = some (.xd [("part", u)]) := upd_same
      have s24 := s2.trans (sE.trans s4)
      refine ⟨true, T.em_BadForm_ScreenError, fun _ ea na => ?_, tt⟩
      obtain ⟨u2, rfl, hu2⟩ := due_us hus hp
      exact ⟨dd, L, u, u2, p, rfl, rfl, rfl, S4.st hd1, SqL.of (S4.st (s24 _ _ hL)), dp_same S4.1 (dp_same (sE.trans s4) hu), dp_same S4.1 (dp_same s24 hu2), due_ok hp ok, q _ _ (s01.trans s24) S4⟩
def spAddL (K : PySem.W.Frag) : Sp := fun vs H Q _ => ∃ (G : Hp) (M : List (Addr × HO)) (v u : V) (f g : PyData) (n : Int), vs = [v, u, .int n] ∧ Sep G M H ∧ Dp K G v f ∧ Dp K G u g ∧ due f = none ∧ due g = none ∧ Okd f ∧ Okd g ∧ Okd (.tuple [.str "sum", f, g]) ∧ Okd (.list [f, g]) ∧ ∀ G' H', Same G G' → Sep G' M H' → Q (.bl true) H'
theorem ok_added (T : Top K mg w) (pf : PySem.XExc.PF P T.x_file) {k : Nat} (G_wrong : FnOk P w K mg base CX0 k T.a_wrong T.d_wrong ["_law_parts"] (spWrong K)) (G_Form_init : FnOk P w K mg base (L2.CX P w) k T.a_Form_init T.d_Form_init ["self", "parts"] (spFInitD K T.C_Form T.C_BadForm)) (G_Form_add : FnOk P w K mg base (L2.CX P w) k T.a_Form_add T.d_Form_add ["self", "other"] (spAddD K T.C_Form T.C_BadForm)) (G_Form_summed : FnR P w K mg base (L2.CX P w) k T.a_Form_summed (spS 2 (spSumD K T.C_Form T.C_BadForm))) (G_Form_parts : FnOk P w K mg base CX0 k T.a_Form_parts T.d_Form_parts ["self"] (spPartsF T.C_Form))
    (H_Form_parts : FnQ P w K mg base k T.a_Form_parts T.d_Form_parts ["self"] (spPartsF T.C_Form)) (H_due_error : FnE P w K mg base k T.a_due_error T.d_due_error ["_law_error", "_law_due"] (spDueErr K T.C_BadForm)) :
    FnG P w K mg base CX0 (k + 3) T.a_added T.d_added ["_law_first", "_law_second", "_law_way"] (spAddL K) := by
  refine okG T.F_added sc_added (fun vs H Q E h => ?_) (fun cdv A outer s H vs Q E hr hg h => ?_)
  · obtain ⟨G, M, v, u, f, g, n, rfl, _⟩ := h
    rfl
  · obtain ⟨G, M, v, u, f, g, n, rfl, S, hv, hu, ef, eg, okf, okg, oks, okl, q⟩ := h
    refine ⟨_, (pss_cons (ps_set (i := 3) sc_added.nd rfl (.inl rfl) (pe_call G_wrong (hr.mono (by omega)) (by rfl) T.g_wrong T.F_wrong.kp T.b_wrong .nil pass0 (pa_cons (pe_tup (pa_cons pe_str (pa_cons (xv 0) (pa_cons (xv 1) pa_nil)))) pa_nil)))
      (pss_cons (ps_set (i := 4) sc_added.nd rfl (.inl rfl) (pe_make T.mk_Form G_Form_init (hr.mono (by omega)) (by rfl) T.g_Form T.b_Form_init .nil passL (pa_cons (xv 0) pa_nil)))
      (pss_cons (ps_set (i := 5) sc_added.nd rfl (.inl rfl) (pe_make T.mk_Form G_Form_init (hr.mono (by omega)) (by rfl) T.g_Form T.b_Form_init .nil passL (pa_cons (xv 1) pa_nil)))
      (pss_cons (ps_set (i := 6) sc_added.nd rfl (.inl rfl) pe_non)
      (pss_cons (ps_try_as (i := 7) (Wout := fun _ _ _ _ => False) rfl rfl sc_added.nd rfl rfl ⟨rfl, by decide, Or.inl T.g_ScreenError⟩ takes0
      (fun W pn xe tk _ => (pss_one (xs_if (xt_cmp (op_eqLK K hr.u190) (xv 2) pe_int (nomark _))
      (pss_one (ps_set (i := 6) sc_added.nd rfl (.inl rfl) (pe_addOT (xv 4) (xv 5) G_Form_add T.fst_Form T.sp_Form_add.1 T.sp_Form_add.2 T.b_Form_add (fun σ => passAt tk σ) (hr.mono (by omega)))))
      (pss_one (ps_set (i := 6) sc_added.nd rfl (.inl rfl) (pe_cmethT (pe_glob (v := .ref T.C_Form) (by rfl) T.g_Form rfl) T.cr_Form T.cm_Form_summed G_Form_summed (hr.mono (by omega)) (fun σ => passAt tk σ) (pa_cons (xv 4) (pa_cons (xv 5) pa_nil))))))))
      (fun a oe cls d pn hz hf => (pss_one (ps_ret (xe_and (pe_callErr H_due_error (roomQ hr (by omega)) hg List.mem_cons_self hz hf (by rfl) T.g_due_error T.F_due_error.kp T.b_due_error pass0 (pa_cons (xv 7) (pa_cons (xv 3) pa_nil))) (pe_one (pe_cmpR (op_eqLK K hr.u190) (pe_callB (call_reprE K hg (by have z := u70 hr; exact z)) (by rfl) T.m_repr (by decide +kernel) (pa_cons (pe_lst (pa_cons (pe_propQ (xv 4) T.cl_Form T.pr_Form_parts H_Form_parts (roomQ hr (by omega)) ⟨_, List.mem_cons_self⟩ T.b_Form_parts pass0 rfl) (pa_cons (pe_propQ (xv 5) T.cl_Form T.pr_Form_parts H_Form_parts (roomQ hr (by omega)) ⟨_, List.mem_cons_self⟩ T.b_Form_parts pass0 rfl) pa_nil))) pa_nil)) (pe_callB (call_reprE K hg (by have z := u70 hr; exact z)) (by rfl) T.m_repr (by decide +kernel) (pa_cons (pe_lst (pa_cons (xv 0) (pa_cons (xv 1) pa_nil))) pa_nil)) (nomark _))))))))
      (pss_one (ps_ret (xe_and (pe_cmpR (op_eqNil K (Nat.lt_of_le_of_lt (Nat.le_add_right _ 70) (u70 hr))) (xv 3) (pe_lst pa_nil) (nomark _)) (pe_one (pe_cmpR (op_eqLK K hr.u190) (pe_callB (call_reprE K hg (by have z := u70 hr; exact z)) (by rfl) T.m_repr (by decide +kernel) (pa_cons (pe_prop (xv 6) T.cl_Form T.pr_Form_parts G_Form_parts (hr.mono (by omega)) T.b_Form_parts .nil pass0 rfl) pa_nil)) (pe_callB (call_reprE K hg (by have z := u70 hr; exact z)) (by rfl) T.m_repr (by decide +kernel) (pa_cons (pe_tup (pa_cons pe_str (pa_cons (xv 0) (pa_cons (xv 1) pa_nil)))) pa_nil)) (nomark _))))))))))), ?_⟩
    refine ⟨sz, fun t0 nt0 => ?_⟩
    obtain ⟨G0, s0, S0, k0⟩ := Sep.mk (o := .tup [.str "sum", v, u]) S nt0
    have h0 : Dp K G0 (.ref t0) (.tuple [.str "sum", f, g]) := .tup (SqT.of k0) (.cons (.str _) (.cons (dp_same s0 hv) (.cons (dp_same s0 hu) .nil)))
    refine ⟨G0, M, .ref t0, _, rfl, S0, h0, oks, fun L G1 H1 us s1 hL hus S1 => ?_⟩
    have s01 := s0.trans s1
    refine fun x dx nx ndx ne => ?_
    refine ⟨G1, _, x, dx, v, f, rfl, S1.new2 nx ndx ne, dp_same s01 hv, okf, fun _ G2 H2 s2 S2 => ⟨rfl, ?_⟩, fun p hp => (by rw [ef] at hp; exact nomatch hp)⟩
    obtain ⟨G3, s3, hx3, S3⟩ := fmd_made S2 (dp_same (s01.trans s2) hv)
    have s13 := s2.trans s3
    refine fun y dy ny ndy ne2 => ?_
    refine ⟨G3, _, y, dy, u, g, rfl, S3.new2 ny ndy ne2, dp_same (s01.trans s13) hu, okg, fun _ G4 H4 s4 S4 => ⟨rfl, ?_⟩, fun p hp => (by rw [eg] at hp; exact nomatch hp)⟩
    obtain ⟨G5, s5, hy5, S5⟩ := fmd_made S4 (dp_same (s01.trans (s13.trans s4)) hu)
    have s15 := s13.trans (s4.trans s5)
    have hx5 := hx3.same (s4.trans s5)
    have s05 := s01.trans s15
    have hv5 := dp_same s05 hv
    have hu5 := dp_same s05 hu
    have hL5 := s15 _ _ hL
    refine ⟨fun _ => ?ga, fun _ => ?gb⟩
    case ga =>
      obtain ⟨ex, vx, hx6, hvx⟩ := id hx5
      obtain ⟨ey, vy, hy6, hvy⟩ := id hy5
      refine ⟨x, y, ex, ey, _, _, rfl, rfl, S5.st hx6, S5.st hy6, G5, M, x, y, f, g, rfl, S5, hx5, hy5, oks, fun h5 z G7 H7 s7 hz S7 => ?_, fun p hp p2 G7 s7 hp2 => ?_⟩
      · have s6 : Same G5 G5 := Same.refl _
        have s57 := s6.trans s7
        obtain ⟨dz, v3, hz3, hv3⟩ := hz
        refine ⟨sz, fun t nt => ?_⟩
        obtain ⟨G8, s8, S8, k8⟩ := Sep.mk (o := .lst []) S7 nt
        have s58 := s57.trans s8
        have hL8 := SqL.of (K := K) (S8.st (s58 _ _ hL5))
        rw [h5] at hus
        cases hus
        refine ⟨L, t, _, rfl, rfl, hL8, SqL.of (S8.st k8), fun _ => ?_, tt⟩
        have hz8 := S8.st (s8 _ _ hz3)
        have hv8 := dp_same S8.1 (dp_same s8 hv3)
        refine ⟨z, dz, _, rfl, hz8, z, dz, _, rfl, hz8, _, _, rfl, hv8, oks.sw, oks.d64, oks.sml, ?_⟩
        refine ⟨sz, fun t9 nt9 => ?_⟩
        obtain ⟨G9, s9, S9, k9⟩ := Sep.mk (o := .tup [.str "sum", v, u]) S8 nt9
        have s59 := s58.trans s9
        have hv9 : Dp K G9 (.ref t9) (.tuple [.str "sum", f, g]) := .tup (SqT.of k9) (.cons (.str _) (.cons (dp_same s59 hv5) (.cons (dp_same s59 hu5) .nil)))
        refine ⟨_, _, rfl, dp_same S9.1 hv9, oks.sw, oks.d64, oks.sml, ?_⟩
        show Q (.bl (decide (_ = _))) _
        rw [decide_eq_true rfl]
        exact q _ _ (s05.trans s59) S9
      · have s6 : Same G5 G5 := Same.refl _
        refine fun GE HE N dd sE SE ndd => ?_
        have S8 := SE.sub (M' := M) (List.sublist_append_right N _)
        have S9 := S8.newG (o := .xd [("part", p2)]) ndd
        have s9 := S8.grow (o := .xd [("part", p2)]) ndd
        have hd1 : (upd GE dd (.xd [("part", p2)])) dd = some (.xd [("part", p2)]) := upd_same
        have s79 := sE.trans s9
        have s59 := s6.trans (s7.trans s79)
        refine ⟨true, T.em_BadForm_ScreenError, fun _ ea na => ?_, tt⟩
        obtain ⟨u2, rfl, hu2⟩ := due_us hus hp
        refine ⟨dd, L, p2, u2, p, rfl, rfl, rfl, S9.st hd1, SqL.of (S9.st (s59 _ _ hL5)), dp_same S9.1 (dp_same s79 hp2), dp_same S9.1 (dp_same s59 (dp_same s15 hu2)), due_ok hp oks, ?_⟩
        refine ⟨fun _ => ?_, tt⟩
        obtain ⟨ex, vx, hx9, hvx⟩ := hx5.same s59
        obtain ⟨ey, vy, hy9, hvy⟩ := hy5.same s59
        have hx9 := S9.st hx9
        have hy9 := S9.st hy9
        refine ⟨x, ex, _, rfl, hx9, x, ex, _, rfl, hx9, y, ey, _, rfl, hy9, y, ey, _, rfl, hy9, sz, fun t nt => ?_⟩
        obtain ⟨G10, s10, S10, k10⟩ := Sep.mk (o := .lst [vx, vy]) S9 nt
        refine ⟨_, .list [f, g], rfl, .lst (SqL.of (S10.st k10)) (.cons (dp_same S10.1 (dp_same s10 hvx)) (.cons (dp_same S10.1 (dp_same s10 hvy)) .nil)), okl.sw, okl.d64, okl.sml, ?_⟩
        refine ⟨sz, fun t11 nt11 => ?_⟩
        obtain ⟨G11, s11, S11, k11⟩ := Sep.mk (o := .lst [v, u]) S10 nt11
        have s511 := s59.trans (s10.trans s11)
        refine ⟨_, .list [f, g], rfl, .lst (SqL.of (S11.st k11)) (.cons (dp_same S11.1 (dp_same s511 hv5)) (.cons (dp_same S11.1 (dp_same s511 hu5)) .nil)), okl.sw, okl.d64, okl.sml, ?_⟩
        show Q (.bl (decide (_ = _))) _
        rw [decide_eq_true rfl]
        exact q _ _ (s05.trans s511) S11
    case gb =>
      refine ⟨rfl, [.ref T.C_Form, .ref x], [.ref y], rfl, rfl, sz, fun r nr => ?_⟩
      obtain ⟨G6, s6, S6, k6⟩ := Sep.mk (o := .tup [.ref y]) S5 nr
      refine ⟨G6, M, x, r, y, f, g, rfl, S6, k6, hx5.same s6, hy5.same s6, oks, fun h5 z G7 H7 s7 hz S7 => ?_, fun p hp p2 G7 s7 hp2 => ?_⟩
      · have s57 := s6.trans s7
        obtain ⟨dz, v3, hz3, hv3⟩ := hz
        refine ⟨sz, fun t nt => ?_⟩
        obtain ⟨G8, s8, S8, k8⟩ := Sep.mk (o := .lst []) S7 nt
        have s58 := s57.trans s8
        have hL8 := SqL.of (K := K) (S8.st (s58 _ _ hL5))
        rw [h5] at hus
        cases hus
        refine ⟨L, t, _, rfl, rfl, hL8, SqL.of (S8.st k8), fun _ => ?_, tt⟩
        have hz8 := S8.st (s8 _ _ hz3)
        have hv8 := dp_same S8.1 (dp_same s8 hv3)
        refine ⟨z, dz, _, rfl, hz8, z, dz, _, rfl, hz8, _, _, rfl, hv8, oks.sw, oks.d64, oks.sml, ?_⟩
        refine ⟨sz, fun t9 nt9 => ?_⟩
        obtain ⟨G9, s9, S9, k9⟩ := Sep.mk (o := .tup [.str "sum", v, u]) S8 nt9
        have s59 := s58.trans s9
        have hv9 : Dp K G9 (.ref t9) (.tuple [.str "sum", f, g]) := .tup (SqT.of k9) (.cons (.str _) (.cons (dp_same s59 hv5) (.cons (dp_same s59 hu5) .nil)))
        refine ⟨_, _, rfl, dp_same S9.1 hv9, oks.sw, oks.d64, oks.sml, ?_⟩
        show Q (.bl (decide (_ = _))) _
        rw [decide_eq_true rfl]
        exact q _ _ (s05.trans s59) S9
      · refine fun GE HE N dd sE SE ndd => ?_
        have S8 := SE.sub (M' := M) (List.sublist_append_right N _)
        have S9 := S8.newG (o := .xd [("part", p2)]) ndd
        have s9 := S8.grow (o := .xd [("part", p2)]) ndd
        have hd1 : (upd GE dd (.xd [("part", p2)])) dd = some (.xd [("part", p2)]) := upd_same
        have s79 := sE.trans s9
        have s59 := s6.trans (s7.trans s79)
        refine ⟨true, T.em_BadForm_ScreenError, fun _ ea na => ?_, tt⟩
        obtain ⟨u2, rfl, hu2⟩ := due_us hus hp
        refine ⟨dd, L, p2, u2, p, rfl, rfl, rfl, S9.st hd1, SqL.of (S9.st (s59 _ _ hL5)), dp_same S9.1 (dp_same s79 hp2), dp_same S9.1 (dp_same s59 (dp_same s15 hu2)), due_ok hp oks, ?_⟩
        refine ⟨fun _ => ?_, tt⟩
        obtain ⟨ex, vx, hx9, hvx⟩ := hx5.same s59
        obtain ⟨ey, vy, hy9, hvy⟩ := hy5.same s59
        have hx9 := S9.st hx9
        have hy9 := S9.st hy9
        refine ⟨x, ex, _, rfl, hx9, x, ex, _, rfl, hx9, y, ey, _, rfl, hy9, y, ey, _, rfl, hy9, sz, fun t nt => ?_⟩
        obtain ⟨G10, s10, S10, k10⟩ := Sep.mk (o := .lst [vx, vy]) S9 nt
        refine ⟨_, .list [f, g], rfl, .lst (SqL.of (S10.st k10)) (.cons (dp_same S10.1 (dp_same s10 hvx)) (.cons (dp_same S10.1 (dp_same s10 hvy)) .nil)), okl.sw, okl.d64, okl.sml, ?_⟩
        refine ⟨sz, fun t11 nt11 => ?_⟩
        obtain ⟨G11, s11, S11, k11⟩ := Sep.mk (o := .lst [v, u]) S10 nt11
        have s511 := s59.trans (s10.trans s11)
        refine ⟨_, .list [f, g], rfl, .lst (SqL.of (S11.st k11)) (.cons (dp_same S11.1 (dp_same s511 hv5)) (.cons (dp_same S11.1 (dp_same s511 hu5)) .nil)), okl.sw, okl.d64, okl.sml, ?_⟩
        show Q (.bl (decide (_ = _))) _
        rw [decide_eq_true rfl]
        exact q _ _ (s05.trans s511) S11

end
end K02
set_option Elab.async false
set_option linter.all false
set_option maxRecDepth 100000
set_option maxHeartbeats 4000000
namespace K02
open PySem PySem.Spec PyProof.Rows L2 XL
section
variable {P : Program} {w : World} {K : PySem.W.Frag} {mg : Str → Option Value} {base : Heap}
/-! ### tall forms -/
def GmV (K : PySem.W.Frag) (G : Hp) (ns : List Str) (m : Int) (v : V) : Prop := ∃ f : Gm, GmAt K G v f ∧ f.ok ns ∧ (f.dep : Int) ≤ m
theorem GmV.same' {K : PySem.W.Frag} {G G' : Hp} {ns : List Str} {m : Int} {v : V} (e : Same G G') (h : GmV K G ns m v) : GmV K G' ns m v := let ⟨f, h1, h2⟩ := h; ⟨f, h1.same' e, h2⟩
theorem tall_build {K : PySem.W.Frag} {G : Hp} {ns : List Str} {m : Int} {t : Addr} {u : Str} {ws : List V} (h : SqT K G t (.str u :: ws)) (hw : ∀ v ∈ ws, GmV K G ns m v) (hu : (u = "pick" ∧ ws.length = 3) ∨ ((u = "sum" ∨ u = "same") ∧ ws.length = 2)) : GmV K G ns (m + 1) (.ref t) := by
  rcases hu with ⟨rfl, l⟩ | ⟨hu, l⟩
  · obtain ⟨a, b, c, rfl⟩ : ∃ a b c, ws = [a, b, c] := by
      match ws, l with
      | [a, b, c], _ => exact ⟨a, b, c, rfl⟩
    obtain ⟨f1, a1, a2, a3⟩ := hw a (by simp)
    obtain ⟨f2, b1, b2, b3⟩ := hw b (by simp)
    obtain ⟨f3, c1, c2, c3⟩ := hw c (by simp)
    exact ⟨.pick f1 f2 f3, .pick h a1 b1 c1, ⟨a2, b2, c2⟩, by simp only [Gm.dep]; omega⟩
  · obtain ⟨a, b, rfl⟩ : ∃ a b, ws = [a, b] := by
      match ws, l with
      | [a, b], _ => exact ⟨a, b, rfl⟩
    obtain ⟨f1, a1, a2, a3⟩ := hw a (by simp)
    obtain ⟨f2, b1, b2, b3⟩ := hw b (by simp)
    rcases hu with rfl | rfl
    · exact ⟨.sum f1 f2, .sum h a1 b1, ⟨a2, b2⟩, by simp only [Gm.dep]; omega⟩
    · exact ⟨.same f1 f2, .same h a1 b1, ⟨a2, b2⟩, by simp only [Gm.dep]; omega⟩
theorem ok_tall (T : Top K mg w) {k : Nat} (G_pick : FnOk P w K mg base CX0 k T.a_pick T.d_pick ["_law_bag_here", "_law_many"] spPick) (G_form : ∀ d, FnOk P w K mg base CX0 (k + 1 + d) T.a_form T.d_form ["_law_bag_here", "_law_readable", "_law_levels_here"] (spForm K d)) :
    ∀ d : Nat, FnOk P w K mg base CX0 (k + 2 + d) T.a_tall T.d_tall ["_law_bag_here", "_law_readable", "_law_levels_here"] (spForm K d)
  | 0 => fn_false39 fun vs H Q E h => by
    obtain ⟨G, M, b, o, l, xs, n, _, _, _, _, _, _, h1, h2, _⟩ := h
    omega
  | d + 1 => by
    have G_tall := ok_tall T G_pick G_form d
    have G_form := G_form (d + 1)
    refine T.F_tall.ok sc_tall (fun vs H Q E h => ?_) (fun cdv A outer s H vs Q E hr h => ?_)
    · obtain ⟨G, M, b, o, l, xs, n, rfl, _⟩ := h
      rfl
    · obtain ⟨G, M, b, o, l, ns, n, rfl, S, B, hl, x0, x1, n1, n2, q⟩ := h
      have hr : Room (k + 2 + d) (A.deeper (envOfC (Str.ofString "_law_tall") (defScope s_tall) s.heap.objs.size T.a_tall cdv)) := hr
      refine ⟨_, (pss_cons (xs_if (xt_cmp op_leY (xv 2) pe_int (nomark _))
      (pss_one (ps_ret (pe_call G_form (hr.mono (by omega)) (by rfl) T.g_form T.F_form.kp T.b_form .nil pass0 (pa_cons (xv 0) (pa_cons (xv 1) (pa_cons pe_int pa_nil))))))
      pss_nil)
      (pss_cons (ps_set (i := 3) sc_tall.nd rfl (.inl rfl) (pe_lst (pa_cons (pe_call G_tall (hr.mono (by omega)) (by rfl) T.g_tall T.F_tall.kp T.b_tall .nil pass0 (pa_cons (xv 0) (pa_cons (xv 1) (pa_cons (pe_op op_subY (xv 2) pe_int) pa_nil)))) pa_nil)))
      (pss_cons (ps_set (i := 4) sc_tall.nd rfl (.inl rfl) (pe_ix (ix_k K) (pe_lst (pa_cons pe_str (pa_cons pe_str (pa_cons pe_str pa_nil)))) (pe_call G_pick (hr.mono (by omega)) (by rfl) T.g_pick T.F_pick.kp T.b_pick .nil pass0 (pa_cons (xv 0) (pa_cons pe_int pa_nil))) (fun _ _ => rfl)))
      (pss_cons (ps_for PassesOwn.never rfl (pi_range1 (by rfl) T.m_range (pa_cons (xe_if (xt_cmp (op_eqLK K hr.u190) (xv 4) pe_str (nomark _)) pe_int pe_int) pa_nil)) (pg_name (i := 5) sc_tall.nd rfl (.inl rfl))
      (pss_one (ps_expr (pe_bmK K PySem.F.plainAttrs_list PySem.F.slot_list_insert PySem.F.type_list_insert mt_insert (xv 3) (pa_cons (pe_call G_pick (hr.mono (by omega)) (by rfl) T.g_pick T.F_pick.kp T.b_pick .nil pass0 (pa_cons (xv 0) (pa_cons (pe_op op_addY (pe_callB (cr_lenK K) (by rfl) T.m_len (by decide +kernel) (pa_cons (xv 3) pa_nil)) pe_int) pa_nil))) (pa_cons (pe_call G_form (hr.mono (by omega)) (by rfl) T.g_form T.F_form.kp T.b_form .nil pass0 (pa_cons (xv 0) (pa_cons (xv 1) (pa_cons (pe_op op_subY (xv 2) pe_int) pa_nil)))) pa_nil))))))
      (pss_one (ps_ret (pe_op (op_catAK K) (pe_tup (pa_cons (xv 4) pa_nil)) (pe_callTy (call_tupleK K) (by rfl) T.m_tuple (by decide +kernel) (pa_cons (xv 3) pa_nil))))))))), ?_⟩
      refine ⟨fun e1 => ?_, fun e1 => ?_⟩
      · exact ⟨G, M, b, o, l, ns, 1, rfl, S, B, hl, x0, x1, by decide, by omega, fun v f o1 G1 H1 s1 hf ok hd B1 S1 => q v f o1 G1 H1 s1 hf ok (by omega) B1 S1⟩
      · have n2' : ¬ n ≤ 1 := of_decide_eq_false e1
        refine ⟨G, M, b, o, l, ns, n - 1, rfl, S, B, hl, x0, x1, by omega, by omega, fun v1 f1 o1 G1 H1 s1 hf1 ok1 d1 B1 S1 => ?_⟩
        refine ⟨sz, fun L nL => ?_⟩
        have S2 := S1.new (o := .lst [v1]) nL
        refine ⟨sz, fun t0 nt0 => ?_⟩
        have S3 := S2.newG (o := .lst [.str "sum", .str "same", .str "pick"]) nt0
        have s3 := S2.grow (o := .lst [.str "sum", .str "same", .str "pick"]) nt0
        refine ⟨_, _, b, o1, 3, rfl, S3.sw, B1.same s3, by decide, by decide, fun r o2 H2 r0 r3 B2 S4 => ?_⟩
        obtain ⟨u, hu, hu3⟩ : ∃ u : Str, atI [V.str "sum", V.str "same", V.str "pick"] r = some (.str u) ∧ (u = "sum" ∨ u = "same" ∨ u = "pick") := by
          obtain rfl | rfl | rfl : r = 0 ∨ r = 1 ∨ r = 2 := by omega
          · exact ⟨"sum", rfl, .inl rfl⟩
          · exact ⟨"same", rfl, .inr (.inl rfl)⟩
          · exact ⟨"pick", rfl, .inr (.inr rfl)⟩
        refine ⟨_, .str u, .inl (SqL.of (S4.st upd_same)), hu, ?_⟩
        have s13 := s1.trans s3
        refine ⟨fun e => ?ra, fun e => ?rb⟩
        case ra | rb =>
          refine ⟨_, rfl, by decide, by decide, for_range (lo := 0) (n := Int.toNat _) (fun i σ H' => ∃ (y5 : Option V) (G' : Hp) (o' : HO) (ws : List V), σ = [some (.ref b), some (.ref l), some (.int n), some (.ref L), some (.str u), y5] ∧ Same (upd G1 t0 (.lst [.str "sum", .str "same", .str "pick"])) G' ∧ (∀ v ∈ ws, GmV K G' ns (n - 1) v) ∧ ws.length = i + 1 ∧ Bag G' o' ∧ Sep G' ((L, .lst ws) :: (b, o') :: M) H')
            ⟨_, _, o2, [v1], rfl, Same.refl _, (fun v hv => by rw [List.mem_singleton.mp hv]; exact ⟨f1, hf1.same' s3, ok1, d1⟩), rfl, B2, S4.sw⟩ (fun i σ H' hi h => ?_) (fun σ H' h => ?_)⟩
          · obtain ⟨y5, G5, o5, ws, rfl, s5, hws, wl, B5, S5⟩ := h
            have hi2 : i < 2 := Nat.lt_of_lt_of_le hi (by decide)
            refine ⟨.inl ⟨rfl, _, SqL.of S5.hd⟩, _, .inl (SqL.of S5.hd), G5, _, b, o5, _, rfl, S5.sw, B5, by omega, by omega, fun r6 o6 H6 r60 r61 B6 S6 => ?_⟩
            refine ⟨G5, _, b, o6, l, ns, n - 1, rfl, S6, B6, s5 _ _ (s13 _ _ hl), x0, x1, by omega, by omega, fun v7 f7 o7 G7 H7 s7 hf7 ok7 d7 B7 S7 => ?_⟩
            refine ⟨L, ws, r6, v7, rfl, rfl, S7.sw.hd, by rw [sizeLine_eq]; omega, r60, by omega, ?_⟩
            refine ⟨_, G7, o7, ws.take r6.toNat ++ [v7] ++ ws.drop r6.toNat, rfl, s5.trans s7, fun v hv => ?_, ?_, B7, S7.sw.set⟩
            · have old : ∀ x ∈ ws, GmV K G7 ns (n - 1) x := fun x hx => (hws x hx).same' s7
              rcases List.mem_append.mp hv with z | z
              · rcases List.mem_append.mp z with z | z
                · exact old v (List.mem_of_mem_take z)
                · rw [List.mem_singleton.mp z]
                  exact ⟨f7, hf7, ok7, d7⟩
              · exact old v (List.mem_of_mem_drop z)
            · rw [List.length_append, List.length_append, List.length_take, List.length_drop, List.length_singleton]
              omega
          · obtain ⟨y5, G5, o5, ws, rfl, s5, hws, wl, B5, S5⟩ := h
            refine ⟨sz, fun t5 nt5 => ?_⟩
            obtain ⟨G6, s6, S6, k6⟩ := Sep.mk (o := .tup [.str u]) S5 nt5
            refine ⟨L, ws, rfl, .inl ⟨SqL.of S6.hd, fun t7 nt7 => ?_⟩⟩
            obtain ⟨G7, s7, S7, k7⟩ := Sep.mk (o := .tup ws) S6 nt7
            have wl3 : ws.length ≤ 3 := by
              rw [wl]
              first | exact (by decide : (2 : Int).toNat + 1 ≤ 3) | exact (by decide : (1 : Int).toNat + 1 ≤ 3)
            refine cat_ok S7 (same_t s7 (SqT.of k6)) (SqT.of k7) (by rw [List.length_singleton, sizeLine_eq]; omega) fun c8 G8 H8 s8 hc8 S8 => ?_
            have s58 := s6.trans (s7.trans s8)
            have hw8 : ∀ v ∈ ws, GmV K G8 ns (n - 1) v := fun v hv => (hws v hv).same' s58
            have hu8 : (u = "pick" ∧ ws.length = 3) ∨ ((u = "sum" ∨ u = "same") ∧ ws.length = 2) := by
              first
                | exact .inl ⟨of_decide_eq_true e, wl⟩
                | refine .inr ⟨?_, wl⟩
                  have e2 : ¬ u = "pick" := of_decide_eq_false e
                  rcases hu3 with z | z | z
                  · exact .inl z
                  · exact .inr z
                  · exact absurd z e2
            obtain ⟨f8, a1, a2, a3⟩ := tall_build hc8 hw8 hu8
            exact q _ f8 o5 G8 H8 (s13.trans (s5.trans s58)) a1 a2 (by omega) (B5.same s58) S8.drop
def spDrF (K : PySem.W.Frag) : Sp := fun vs H Q _ => ∃ (G : Hp) (M : List (Addr × HO)) (b : Addr) (o : HO) (l : Addr) (ns : List Str), vs = [.ref b, .ref l] ∧ Sep G ((b, o) :: M) H ∧ Bag G o ∧ G l = some (.lst (ns.map V.str)) ∧ 0 < ns.length ∧ ns.length ≤ 100 ∧
  ∀ (v : V) (f : Gm) (o' : HO) (G' H' : Hp), Same G G' → GmAt K G' v f → f.ok ns → f.dep ≤ 5 → Bag G' o' → Sep G' ((b, o') :: M) H' → Q v H'
theorem ok_drawn_form (T : Top K mg w) {k : Nat} (G_pick : FnOk P w K mg base CX0 k T.a_pick T.d_pick ["_law_bag_here", "_law_many"] spPick) (G_form : FnOk P w K mg base CX0 k T.a_form T.d_form ["_law_bag_here", "_law_readable", "_law_levels_here"] (spForm K 5)) (G_tall : FnOk P w K mg base CX0 k T.a_tall T.d_tall ["_law_bag_here", "_law_readable", "_law_levels_here"] (spForm K 5)) :
    FnOk P w K mg base CX0 (k + 1) T.a_drawn_form T.d_drawn_form ["_law_bag_here", "_law_readable"] (spDrF K) := by
  refine T.F_drawn_form.ok sc_drawn_form (fun vs H Q E h => ?_) (fun cdv A outer s H vs Q E hr h => ?_)
  · obtain ⟨G, M, b, o, l, ns, rfl, _⟩ := h
    rfl
  · obtain ⟨G, M, b, o, l, ns, rfl, S, B, hl, x0, x1, q⟩ := h
    refine ⟨_, (pss_cons (ps_set (i := 2) sc_drawn_form.nd rfl (.inl rfl) (pe_op op_addY pe_int (pe_call G_pick (hr.mono (by omega)) (by rfl) T.g_pick T.F_pick.kp T.b_pick .nil pass0 (pa_cons (xv 0) (pa_cons pe_int pa_nil)))))
      (pss_cons (xs_if (xt_cmp (op_eqLK K hr.u190) (pe_call G_pick (hr.mono (by omega)) (by rfl) T.g_pick T.F_pick.kp T.b_pick .nil pass0 (pa_cons (xv 0) (pa_cons pe_int pa_nil))) pe_int (nomark _))
      (pss_one (ps_ret (pe_call G_tall (hr.mono (by omega)) (by rfl) T.g_tall T.F_tall.kp T.b_tall .nil pass0 (pa_cons (xv 0) (pa_cons (xv 1) (pa_cons (xv 2) pa_nil))))))
      pss_nil)
      (pss_one (ps_ret (pe_call G_form (hr.mono (by omega)) (by rfl) T.g_form T.F_form.kp T.b_form .nil pass0 (pa_cons (xv 0) (pa_cons (xv 1) (pa_cons (xv 2) pa_nil)))))))), ?_⟩
    refine ⟨G, M, b, o, 5, rfl, S, B, by decide, by decide, fun r o1 H1 r0 r5 B1 S1 => ?_⟩
    refine ⟨G, M, b, o1, 2, rfl, S1, B1, by decide, by decide, fun r2 o2 H2 _ _ B2 S2 => ⟨fun _ => ?_, fun _ => ?_⟩⟩
    · exact ⟨G, M, b, o2, l, ns, 1 + r, rfl, S2, B2, hl, x0, x1, by omega, by omega, fun v f o3 G3 H3 s3 hf ok hd B3 S3 => q v f o3 G3 H3 s3 hf ok (by omega) B3 S3⟩
    · exact ⟨G, M, b, o2, l, ns, 1 + r, rfl, S2, B2, hl, x0, x1, by omega, by omega, fun v f o3 G3 H3 s3 hf ok hd B3 S3 => q v f o3 G3 H3 s3 hf ok (by omega) B3 S3⟩

end
end K02
set_option Elab.async false
set_option linter.all false
set_option maxRecDepth 100000
set_option maxHeartbeats 4000000
namespace K02
open PySem PySem.Spec PyProof.Rows L2 XL
section
variable {P : Program} {w : World} {K : PySem.W.Frag} {mg : Str → Option Value} {base : Heap}
/-! ### forms put into more levels -/
def spDeep (K : PySem.W.Frag) : Sp := fun vs H Q _ => ∃ (G : Hp) (M : List (Addr × HO)) (b : Addr) (o : HO) (l : Addr) (ns : List Str) (v : V) (f : Gm) (n : Nat), vs = [.ref b, .ref l, v, .int (n : Nat)] ∧ Sep G ((b, o) :: M) H ∧ Bag G o ∧ G l = some (.lst (ns.map V.str)) ∧ 0 < ns.length ∧ ns.length ≤ 100 ∧ GmAt K G v f ∧ f.ok ns ∧ n ≤ 30 ∧
  ∀ (u : V) (g : Gm) (o' : HO) (G' H' : Hp), Same G G' → GmAt K G' u g → g.ok ns → g.dep ≤ f.dep + n → g.cnt ≤ f.cnt + 3 * n → Bag G' o' → Sep G' ((b, o') :: M) H' → Q u H'
theorem dep1 {f : Gm} (h : (f.dep : Int) ≤ 1) : f.dep = 1 ∧ f.cnt = 1 := by
  cases f with
  | is n => exact ⟨rfl, rfl⟩
  | get x => exact ⟨rfl, rfl⟩
  | sum a b => have := a.dep_pos; simp only [Gm.dep] at h; omega
  | same a b => have := a.dep_pos; simp only [Gm.dep] at h; omega
  | pick a b c => have := a.dep_pos; simp only [Gm.dep] at h; omega
theorem ok_deeper (T : Top K mg w) {k : Nat} (G_pick : FnOk P w K mg base CX0 k T.a_pick T.d_pick ["_law_bag_here", "_law_many"] spPick) (G_form : FnOk P w K mg base CX0 k T.a_form T.d_form ["_law_bag_here", "_law_readable", "_law_levels_here"] (spForm K 1)) :
    FnOk P w K mg base CX0 (k + 1) T.a_deeper T.d_deeper ["_law_bag_here", "_law_readable", "_law_parts", "_law_times"] (spDeep K) := by
  refine T.F_deeper.ok sc_deeper (fun vs H Q E h => ?_) (fun cdv A outer s H vs Q E hr h => ?_)
  · obtain ⟨G, M, b, o, l, ns, v, f, n, rfl, _⟩ := h
    rfl
  · obtain ⟨G, M, b, o, l, ns, v, f, n, rfl, S, B, hl, x0, x1, hf, ok, hn, q⟩ := h
    refine ⟨_, (pss_cons (ps_for PassesOwn.never rfl (pi_range1 (by rfl) T.m_range (pa_cons (xv 3) pa_nil)) (pg_name (i := 4) sc_deeper.nd rfl (.inl rfl))
      (pss_cons (ps_set (i := 5) sc_deeper.nd rfl (.inl rfl) (pe_lst (pa_cons (pe_call G_form (hr.mono (by omega)) (by rfl) T.g_form T.F_form.kp T.b_form .nil pass0 (pa_cons (xv 0) (pa_cons (xv 1) (pa_cons pe_int pa_nil)))) (pa_cons (pe_call G_form (hr.mono (by omega)) (by rfl) T.g_form T.F_form.kp T.b_form .nil pass0 (pa_cons (xv 0) (pa_cons (xv 1) (pa_cons pe_int pa_nil)))) pa_nil))))
      (pss_cons (ps_set (i := 6) sc_deeper.nd rfl (.inl rfl) (pe_call G_pick (hr.mono (by omega)) (by rfl) T.g_pick T.F_pick.kp T.b_pick .nil pass0 (pa_cons (xv 0) (pa_cons pe_int pa_nil))))
      (pss_one (xs_if (xt_cmp (op_eqLK K hr.u190) (xv 6) pe_int (nomark _))
      (pss_one (ps_set (i := 2) sc_deeper.nd rfl (.inl rfl) (pe_tup (pa_cons pe_str (pa_cons (xv 2) (pa_cons (pe_ix (ix_k K) (xv 5) pe_int (fun _ _ => rfl)) pa_nil))))))
      (pss_one (xs_if (xt_cmp (op_eqLK K hr.u190) (xv 6) pe_int (nomark _))
      (pss_one (ps_set (i := 2) sc_deeper.nd rfl (.inl rfl) (pe_tup (pa_cons pe_str (pa_cons (pe_ix (ix_k K) (xv 5) pe_int (fun _ _ => rfl)) (pa_cons (xv 2) pa_nil))))))
      (pss_cons (ps_expr (pe_bmK K PySem.F.plainAttrs_list PySem.F.slot_list_insert PySem.F.type_list_insert mt_insert (xv 5) (pa_cons (pe_op op_subY (xv 6) pe_int) (pa_cons (xv 2) pa_nil))))
      (pss_one (ps_set (i := 2) sc_deeper.nd rfl (.inl rfl) (pe_op (op_catAK K) (pe_tup (pa_cons pe_str pa_nil)) (pe_callTy (call_tupleK K) (by rfl) T.m_tuple (by decide +kernel) (pa_cons (xv 5) pa_nil)))))))))))))
      (pss_one (ps_ret (xv 2)))), ?_⟩
    refine ⟨_, rfl, by omega, by omega, for_range (lo := 0) (n := n) (fun i σ H' => ∃ (y4 y5 y6 : Option V) (u : V) (g : Gm) (G' : Hp) (o' : HO), σ = [some (.ref b), some (.ref l), some u, some (.int (n : Nat)), y4, y5, y6] ∧ Same G G' ∧ GmAt K G' u g ∧ g.ok ns ∧ g.dep ≤ f.dep + i ∧ g.cnt ≤ f.cnt + 3 * i ∧ Bag G' o' ∧ Sep G' ((b, o') :: M) H')
      ⟨_, _, _, v, f, G, o, rfl, Same.refl _, hf, ok, by omega, by omega, B, S⟩ (fun i σ H' hi h => ?_) (fun σ H' h => ?_)⟩
    · obtain ⟨y4, y5, y6, u, g, G1, o1, rfl, s1, hg, okg, dg, cg, B1, S1⟩ := h
      refine ⟨G1, M, b, o1, l, ns, 1, rfl, S1, B1, s1 _ _ hl, x0, x1, by decide, by decide, fun v2 f2 o2 G2 H2 s2 hf2 ok2 d2 B2 S2 => ?_⟩
      refine ⟨G2, M, b, o2, l, ns, 1, rfl, S2, B2, s2 _ _ (s1 _ _ hl), x0, x1, by decide, by decide, fun v3 f3 o3 G3 H3 s3 hf3 ok3 d3 B3 S3 => ?_⟩
      have fp := f.dep_pos
      obtain ⟨e2, c2⟩ := dep1 d2
      obtain ⟨e3, c3⟩ := dep1 d3
      refine ⟨sz, fun L nL => ?_⟩
      have S4 := S3.new (o := .lst [v2, v3]) nL
      refine ⟨G3, _, b, o3, 5, rfl, S4.sw, B3, by decide, by decide, fun r o5 H5 r0 r5 B5 S5 => ?_⟩
      have s23 := s2.trans s3
      have hg3 := hg.same' s23
      have hf23 := hf2.same' s3
      refine ⟨fun e => ?_, fun e => ⟨fun e => ?_, fun e => ?_⟩⟩
      · refine ⟨_, _, .inl (SqL.of S5.sw.hd), atI_nat (j := 0) rfl, sz, fun t nt => ?_⟩
        obtain ⟨G6, s6, S6, k6⟩ := Sep.mk (o := .tup [.str "sum", u, v2]) S5.sw.drop nt
        exact ⟨_, _, _, .ref t, .sum g f2, G6, o5, rfl, s1.trans (s23.trans s6), .sum (SqT.of k6) (hg3.same' s6) (hf23.same' s6), ⟨okg, ok2⟩, by simp only [Gm.dep]; omega, by simp only [Gm.cnt]; omega, B5.same s6, S6⟩
      · refine ⟨_, _, .inl (SqL.of S5.sw.hd), atI_nat (j := 0) rfl, sz, fun t nt => ?_⟩
        obtain ⟨G6, s6, S6, k6⟩ := Sep.mk (o := .tup [.str "same", v2, u]) S5.sw.drop nt
        exact ⟨_, _, _, .ref t, .same f2 g, G6, o5, rfl, s1.trans (s23.trans s6), .same (SqT.of k6) (hf23.same' s6) (hg3.same' s6), ⟨ok2, okg⟩, by simp only [Gm.dep]; omega, by simp only [Gm.cnt]; omega, B5.same s6, S6⟩
      · have r2 : ¬ r = 0 := of_decide_eq_false (by assumption)
        have r3 : ¬ r = 1 := of_decide_eq_false (by assumption)
        refine ⟨.inl ⟨rfl, _, SqL.of S5.sw.hd⟩, L, [v2, v3], r - 2, u, rfl, rfl, S5.sw.hd, sz, by omega, by omega, ?_⟩
        generalize hws : List.take (r - 2).toNat [v2, v3] ++ [u] ++ List.drop (r - 2).toNat [v2, v3] = ws
        obtain ⟨g', w3, at_, ok', d', c'⟩ : ∃ g' : Gm, ws.length = 3 ∧ (∀ t G', Same G3 G' → SqT K G' t (.str "pick" :: ws) → GmAt K G' (.ref t) g') ∧ g'.ok ns ∧ g'.dep ≤ f.dep + (i + 1) ∧ g'.cnt ≤ f.cnt + 3 * (i + 1) := by
          obtain rfl | rfl | rfl : r = 2 ∨ r = 3 ∨ r = 4 := by omega
          · obtain rfl : [u, v2, v3] = ws := hws
            exact ⟨.pick g f2 f3, rfl, fun t G' s' h' => .pick h' (hg3.same' s') (hf23.same' s') (hf3.same' s'), ⟨okg, ok2, ok3⟩, by simp only [Gm.dep]; omega, by simp only [Gm.cnt]; omega⟩
          · obtain rfl : [v2, u, v3] = ws := hws
            exact ⟨.pick f2 g f3, rfl, fun t G' s' h' => .pick h' (hf23.same' s') (hg3.same' s') (hf3.same' s'), ⟨ok2, okg, ok3⟩, by simp only [Gm.dep]; omega, by simp only [Gm.cnt]; omega⟩
          · obtain rfl : [v2, v3, u] = ws := hws
            exact ⟨.pick f2 f3 g, rfl, fun t G' s' h' => .pick h' (hf23.same' s') (hf3.same' s') (hg3.same' s'), ⟨ok2, ok3, okg⟩, by simp only [Gm.dep]; omega, by simp only [Gm.cnt]; omega⟩
        have S6 := S5.sw.set (o' := .lst ws)
        refine ⟨sz, fun t5 nt5 => ?_⟩
        obtain ⟨G7, s7, S7, k7⟩ := Sep.mk (o := .tup [.str "pick"]) S6 nt5
        refine ⟨L, ws, rfl, .inl ⟨SqL.of S7.hd, fun t8 nt8 => ?_⟩⟩
        obtain ⟨G8, s8, S8, k8⟩ := Sep.mk (o := .tup ws) S7 nt8
        refine cat_ok S8 (same_t s8 (SqT.of k7)) (SqT.of k8) (by rw [List.length_singleton, sizeLine_eq]; omega) fun c9 G9 H9 s9 hc9 S9 => ?_
        have s39 := s7.trans (s8.trans s9)
        exact ⟨_, _, _, .ref c9, g', G9, o5, rfl, s1.trans (s23.trans s39), at_ c9 G9 s39 hc9, ok', d', c', B5.same s39, S9.drop⟩
    · obtain ⟨y4, y5, y6, u, g, G1, o1, rfl, s1, hg, okg, dg, cg, B1, S1⟩ := h
      exact q u g o1 G1 H' s1 hg okg dg cg B1 S1

end
end K02
set_option Elab.async false
set_option linter.all false
set_option maxRecDepth 100000
set_option maxHeartbeats 4000000
namespace K02
open PySem PySem.Spec PyProof.Rows L2 XL
section
variable {P : Program} {w : World} {K : PySem.W.Frag} {mg : Str → Option Value} {base : Heap}
/-! ### what is spoilt -/
structure Spl where
  pl : Int
  how : Int
  odd : Int
  told : Str
def SplAt (ns : List Str) (m : Int) (G : Hp) (v : V) (c : Spl) : Prop := ∃ t, v = .ref t ∧ G t = some (.tup [.int c.pl, .int c.how, .int c.odd, .str c.told]) ∧ 0 ≤ c.pl ∧ c.pl < m ∧ 0 ≤ c.how ∧ c.how < 12 ∧ 0 ≤ c.odd ∧ c.odd < 14 ∧ c.told ∈ ns
theorem SplAt.same {ns : List Str} {m : Int} {G G' : Hp} (e : Same G G') {v : V} {c : Spl} (h : SplAt ns m G v c) : SplAt ns m G' v c := by
  obtain ⟨t, h1, h2, h3⟩ := h
  exact ⟨t, h1, e _ _ h2, h3⟩
def hits (ss : List Spl) (n m : Int) : Nat := ss.countP fun s => decide (n ≤ s.pl) && decide (s.pl < m)
theorem hits_le (ss : List Spl) (n m : Int) : hits ss n m ≤ ss.length := List.countP_le_length
theorem hits_add (ss : List Spl) {a b c : Int} (h1 : a ≤ b) (h2 : b ≤ c) : hits ss a c = hits ss a b + hits ss b c := by
  induction ss with
  | nil => rfl
  | cons s r ih =>
    unfold hits at ih ⊢
    rw [List.countP_cons, List.countP_cons, List.countP_cons, ih]
    have e : ∀ p : Bool, (if p = true then 1 else 0) = p.toNat := fun p => by cases p <;> rfl
    rw [e, e, e]
    by_cases z1 : a ≤ s.pl <;> by_cases z2 : s.pl < c <;> by_cases z3 : b ≤ s.pl <;> by_cases z4 : s.pl < b <;> simp [z1, z2, z3, z4] <;> omega
theorem hits_pos {ss : List Spl} {s : Spl} (h : s ∈ ss) {n m : Int} (h1 : n ≤ s.pl) (h2 : s.pl < m) : 1 ≤ hits ss n m := by
  unfold hits
  refine List.countP_pos_iff.mpr ⟨s, h, ?_⟩
  rw [decide_eq_true h1, decide_eq_true h2]
  rfl
/-! the texts -/
theorem up_map : ∀ l : List Nat, (∀ c ∈ l, c < 128) → Txt.upper ⟨l.toArray⟩ = ⟨(l.map fun c => if 97 ≤ c ∧ c ≤ 122 then c - 32 else c).toArray⟩
  | [], _ => by decide +kernel
  | c :: r, h => by
    have e1 : (⟨(c :: r).toArray⟩ : Str) = ⟨#[c]⟩ ++ ⟨r.toArray⟩ := Str.ext' (by rw [Str.cps_append]; simp)
    have e2 : Txt.upper ((⟨#[c]⟩ : Str) ++ ⟨r.toArray⟩) = Txt.upper ⟨#[c]⟩ ++ Txt.upper ⟨r.toArray⟩ := PySem.W.KOpn.upper_app _ _
    rw [e1, e2, PySem.W.KOpn.upper_one (h c List.mem_cons_self), up_map r fun d hd => h d (List.mem_cons_of_mem _ hd)]
    exact Str.ext' (by rw [Str.cps_append]; simp)
theorem LS_ascii : ∀ c ∈ LS.cps.toList, c < 128 := by decide +kernel
theorem OkE.upper {a b : Nat} {z : Str} (h : Lt a b z) (l : 10 * b + 15 ≤ 760) : OkE 760 0 (.str (Txt.upper z)) := by
  have e : z = ⟨z.cps.toList.toArray⟩ := Str.ext' (by simp)
  have hc : ∀ c ∈ z.cps.toList, c < 128 := fun c hc => LS_ascii c (h.ch c hc)
  have hl := h.hi
  rw [len_tl] at hl
  rw [e, up_map _ hc]
  refine .str (fun c hc' => ?_) ?_
  · simp only [List.mem_map] at hc'
    obtain ⟨d, hd, rfl⟩ := hc'
    have := hc d hd
    split <;> omega
  · show 10 * (List.map _ z.cps.toList).toArray.size + 15 ≤ 760
    rw [List.size_toArray, List.length_map]
    omega
/-- texts of low signs -/
structure Low (n : Nat) (z : Str) : Prop where
  hi : z.length ≤ n
  ch : ∀ c ∈ z.cps.toList, c < 1114112
theorem Low.mono {n m : Nat} {z : Str} (h : Low n z) (k : n ≤ m) : Low m z := ⟨Nat.le_trans h.hi k, h.ch⟩
theorem Low.app {n m : Nat} {x y : Str} (h : Low n x) (k : Low m y) : Low (n + m) (x ++ y) := ⟨by rw [Str.length_append]; have := h.hi; have := k.hi; omega, fun c hc => by
  rw [Str.cps_append, Array.toList_append] at hc
  rcases List.mem_append.mp hc with z | z
  · exact h.ch c z
  · exact k.ch c z⟩
theorem Low.lit {n : Nat} {z : Str} (h : (z.cps.toList.all fun c => decide (c < 1114112)) = true) (l : z.length ≤ n) : Low n z := ⟨l, fun c hc => of_decide_eq_true (List.all_eq_true.mp h c hc)⟩
theorem lt_low {a b : Nat} {z : Str} (h : Lt a b z) : Low b z := ⟨h.hi, fun c hc => LS_low c (h.ch c hc)⟩
theorem Low.rep {n : Nat} {z : Str} (h : Low n z) (k : Nat) : Low (k * n) (repS z k) := ⟨by rw [repS_len]; exact Nat.mul_le_mul_left _ h.hi, fun c hc => h.ch c (repS_mem hc)⟩
theorem Low.ok {n b : Nat} {z : Str} (h : Low n z) (l : 10 * n + 15 ≤ b) : OkE b 0 (.str z) := .str h.ch (by have := h.hi; omega)
/-- one of a row of data -/
theorem dp_pick {K : PySem.W.Frag} {G : Hp} {us : List V} {ds : List PyData} {b dp : Nat} (h : DpAll K G us ds) (ok : ∀ d ∈ ds, OkE b dp d) {r : Int} (r0 : 0 ≤ r) (r1 : r < us.length) : ∃ v d, atI us r = some v ∧ Dp K G v d ∧ OkE b dp d := by
  obtain ⟨k, rfl⟩ := Int.eq_ofNat_of_zero_le r0
  have hk : k < us.length := by omega
  obtain ⟨d, hd, hv⟩ := dpa_get h (List.getElem?_eq_getElem hk)
  exact ⟨us[k], d, atI_nat (List.getElem?_eq_getElem hk), hv, ok d (List.mem_of_getElem? hd)⟩
/-- one of a few numbers -/
theorem num_e : ∀ n : Nat, n < 40 → (PySem.tbE (.int (n : Nat)) ≤ 30 ∧ PyData.weight (.int (n : Nat)) ≤ 30 ∧ PyData.showable (.int (n : Nat)) = true) ∧ (PySem.tbE (.int (-(n : Nat))) ≤ 30 ∧ PyData.weight (.int (-(n : Nat))) ≤ 30 ∧ PyData.showable (.int (-(n : Nat))) = true) := by decide +kernel
theorem OkE.num {i : Int} (h0 : -40 < i) (h1 : i < 40) : OkE 30 0 (.int i) := by
  by_cases h : 0 ≤ i
  · obtain ⟨k, rfl⟩ := Int.eq_ofNat_of_zero_le h
    obtain ⟨⟨a, b, c⟩, _⟩ := num_e k (by omega)
    exact .leaf c a b (by simp only [PyData.depth])
  · obtain ⟨k, hk⟩ := Int.eq_ofNat_of_zero_le (show 0 ≤ -i by omega)
    obtain ⟨_, a, b, c⟩ := num_e k (by omega)
    have e : i = -((k : Nat) : Int) := by omega
    rw [e]
    exact .leaf c a b (by simp only [PyData.depth])
theorem OkE.bool (b : Bool) : OkE 30 0 (.bool b) := by cases b <;> exact .leaf (by decide +kernel) (by decide +kernel) (by decide +kernel) (by decide +kernel)
theorem OkE.none : OkE 30 0 PyData.none := .leaf (by decide +kernel) (by decide +kernel) (by decide +kernel) (by decide +kernel)
theorem OkE.emp : OkE 30 1 (.dict []) := ⟨by decide +kernel, by decide +kernel, by decide +kernel, by decide +kernel⟩
theorem OkEs.one {b dp : Nat} {d : PyData} (h : OkE b dp d) : OkEs (b + 2) dp [d] := (OkEs.cons h .nil).mono (by omega) (Nat.le_refl _)

/-! ### the odd things -/
theorem ok_cons {b dp : Nat} {d : PyData} {ds : List PyData} (h : OkE b dp d) (t : ∀ y ∈ ds, OkE b dp y) : ∀ y ∈ d :: ds, OkE b dp y := fun y hy => by
  rcases List.mem_cons.mp hy with rfl | hy
  · exact h
  · exact t y hy
theorem ok_nil {b dp : Nat} : ∀ y ∈ ([] : List PyData), OkE b dp y := fun _ h => nomatch h
theorem p30_e : OkE 100 0 (.int (10 ^ 30)) := .leaf (by decide +kernel) (by decide +kernel) (by decide +kernel) (by decide +kernel)
theorem str14 : ∀ n : Nat, n < 14 → (PySem.tbE (.str (toString ((n : Nat) : Int))) ≤ 60 ∧ PyData.weight (.str (toString ((n : Nat) : Int))) ≤ 60 ∧ PyData.showable (.str (toString ((n : Nat) : Int))) = true) := by decide +kernel
theorem OkE.dstr {i : Int} (h0 : 0 ≤ i) (h1 : i < 14) : OkE 60 0 (.str (toString i)) := by
  obtain ⟨k, rfl⟩ := Int.eq_ofNat_of_zero_le h0
  obtain ⟨a, b, c⟩ := str14 k (by omega)
  exact .leaf c a b (by simp only [PyData.depth])
theorem log14 {i : Int} (h0 : 0 ≤ i) (h1 : i < 14) : i.natAbs.log2 < 1920 := by
  have h : i.natAbs < 14 := by omega
  have : ∀ n : Nat, n < 14 → n.log2 < 1920 := by decide
  exact this _ h
def spOddV (K : PySem.W.Frag) : Sp := fun vs H Q _ => ∃ (G : Hp) (M : List (Addr × HO)) (odd : Int) (z : Str), vs = [.int odd, .str z] ∧ Sep G M H ∧ 0 ≤ odd ∧ odd < 14 ∧ Lt 1 8 z ∧
  ∀ (v : V) (d : PyData) (G' H' : Hp), Same G G' → Sep G' M H' → Dp K G' v d → OkE 760 1 d → Q v H'
theorem ok_odd_value (T : Top K mg w) {k : Nat} : FnOk P w K mg base CX0 (k + 1) T.a_odd_value T.d_odd_value ["_law_odd", "_law_told"] (spOddV K) := by
  refine T.F_odd_value.ok sc_odd_value (fun vs H Q E h => ?_) (fun cdv A outer s H vs Q E hr h => ?_)
  · obtain ⟨G, M, odd, z, rfl, _⟩ := h
    rfl
  · obtain ⟨G, M, odd, z, rfl, S, o0, o1, hz, q⟩ := h
    refine ⟨_, (pss_cons (ps_set (i := 2) sc_odd_value.nd rfl (.inl rfl) (pe_lst (pa_cons (pe_un un_neg pe_int) (pa_cons pe_int (pa_cons (pe_op op_addY (xv 0) pe_int) (pa_cons (pe_op op_subY (pe_un un_neg pe_int) (xv 0)) (pa_cons (pe_op op_powY pe_int pe_int) (pa_cons pe_bl (pa_cons pe_bl (pa_cons pe_non (pa_cons (pe_callTy cr_strI (by rfl) T.m_str (by decide +kernel) (pa_cons (xv 0) pa_nil)) (pa_cons (pe_tup (pa_cons (xv 0) pa_nil)) (pa_cons (pe_lst (pa_cons (xv 0) pa_nil)) (pa_cons (pe_tup (pa_cons pe_str (pa_cons pe_int pa_nil))) (pa_cons (xv 1) (pa_cons pe_str pa_nil))))))))))))))))
      (pss_one (ps_ret (pe_ix (ix_k K) (xv 2) (xv 0) (fun _ _ => rfl))))), ?_⟩
    refine ⟨1, rfl, 1, rfl, ⟨⟨by decide, by decide, by decide⟩, fun p30 e30 => ⟨log14 o0 o1, sz, fun t1 n1 => ?_⟩⟩⟩
    obtain ⟨G1, s1, S1, k1⟩ := Sep.mk (o := .tup [.int odd]) S n1
    refine ⟨sz, fun t2 n2 => ?_⟩
    obtain ⟨G2, s2, S2, k2⟩ := Sep.mk (o := .lst [.int odd]) S1 n2
    refine ⟨sz, fun t3 n3 => ?_⟩
    obtain ⟨G3, s3, S3, k3⟩ := Sep.mk (o := .tup [.str "is", .int 0]) S2 n3
    refine ⟨sz, fun D nD => ?_⟩
    have S4 := S3.new (o := .lst [.int (-1), .int 10, .int (odd + 10), .int (-1 - odd), .int p30, .bl true, .bl false, .non, .str (toString odd), .ref t1, .ref t2, .ref t3, .str z, .str ""]) nD
    have hds : DpAll K G3 [.int (-1), .int 10, .int (odd + 10), .int (-1 - odd), .int p30, .bl true, .bl false, .non, .str (toString odd), .ref t1, .ref t2, .ref t3, .str z, .str ""]
        [.int (-1), .int 10, .int (odd + 10), .int (-1 - odd), .int p30, .bool true, .bool false, .none, .str (toString odd), .tuple [.int odd], .list [.int odd], .tuple [.str "is", .int 0], .str z, .str ""] :=
      .cons (.int _) (.cons (.int _) (.cons (.int _) (.cons (.int _) (.cons (.int _) (.cons (.bl _) (.cons (.bl _) (.cons .non (.cons (.str _) (.cons (.tup (SqT.of ((s2.trans s3) _ _ k1)) (.cons (.int _) .nil)) (.cons (.lst (SqL.of (s3 _ _ k2)) (.cons (.int _) .nil)) (.cons (.tup (SqT.of k3) (.cons (.str _) (.cons (.int _) .nil))) (.cons (.str _) (.cons (.str _) .nil)))))))))))))
    have e30 : p30 = 10 ^ 30 := e30
    have nm : ∀ {i : Int}, -40 < i → i < 40 → OkE 760 1 (.int i) := fun h1 h2 => (OkE.num h1 h2).mono (by decide) (by decide)
    have oks : ∀ y ∈ ([.int (-1), .int 10, .int (odd + 10), .int (-1 - odd), .int p30, .bool true, .bool false, .none, .str (toString odd), .tuple [.int odd], .list [.int odd], .tuple [.str "is", .int 0], .str z, .str ""] : List PyData), OkE 760 1 y :=
      ok_cons (nm (by omega) (by omega)) (ok_cons (nm (by omega) (by omega)) (ok_cons (nm (by omega) (by omega)) (ok_cons (nm (by omega) (by omega)) (ok_cons (by rw [e30]; exact p30_e.mono (by decide) (by decide)) (ok_cons ((OkE.bool _).mono (by decide) (by decide)) (ok_cons ((OkE.bool _).mono (by decide) (by decide)) (ok_cons (OkE.none.mono (by decide) (by decide)) (ok_cons ((OkE.dstr o0 o1).mono (by decide) (by decide))
        (ok_cons ((OkEs.one (OkE.num (by omega) (by omega))).tup.mono (by decide) (by decide)) (ok_cons ((OkEs.one (OkE.num (by omega) (by omega))).lst.mono (by decide) (by decide)) (ok_cons ((OkEs.cons (OkE.lit (b := 35) (by decide +kernel) (by decide +kernel)) (.one (OkE.num (by omega) (by omega)))).tup.mono (by decide) (by decide))
        (ok_cons ((lt_low hz).ok (b := 760) (by decide) |>.mono (Nat.le_refl _) (by decide)) (ok_cons ((OkE.lit (b := 35) (by decide +kernel) (by decide +kernel)).mono (by decide) (by decide)) ok_nil)))))))))))))
    obtain ⟨v, d, hat, hv, okd⟩ := dp_pick hds oks o0 o1
    exact ⟨_, v, .inl (SqL.of S4.hd), hat, q v d G3 _ (s1.trans (s2.trans s3)) S4.drop hv okd⟩
theorem ok_odd_name (T : Top K mg w) {k : Nat} : FnOk P w K mg base CX0 (k + 1) T.a_odd_name T.d_odd_name ["_law_odd", "_law_told"] (spOddV K) := by
  refine T.F_odd_name.ok sc_odd_name (fun vs H Q E h => ?_) (fun cdv A outer s H vs Q E hr h => ?_)
  · obtain ⟨G, M, odd, z, rfl, _⟩ := h
    rfl
  · obtain ⟨G, M, odd, z, rfl, S, o0, o1, hz, q⟩ := h
    refine ⟨_, (pss_cons (ps_set (i := 2) sc_odd_name.nd rfl (.inl rfl) (pe_lst (pa_cons pe_str (pa_cons (pe_upper (xv 1)) (pa_cons (pe_op op_addY (xv 1) pe_str) (pa_cons (pe_op op_addY pe_str (xv 1)) (pa_cons (pe_op op_addY (xv 1) pe_str) (pa_cons (pe_op op_addY (xv 1) pe_str) (pa_cons (pe_op op_mulS (xv 1) pe_int) (pa_cons (pe_op op_addY (xv 1) pe_str) (pa_cons (xv 0) (pa_cons pe_non pa_nil))))))))))))
      (pss_cons (ps_expr (pe_bmK K PySem.F.plainAttrs_list PySem.F.slot_list_extend PySem.F.type_list_extend mt_extend (xv 2) (pa_cons (pe_lst (pa_cons pe_bl (pa_cons (pe_tup (pa_cons (xv 1) pa_nil)) (pa_cons (pe_lst (pa_cons (xv 1) pa_nil)) (pa_cons (pe_op op_addY (xv 1) pe_str) pa_nil))))) pa_nil)))
      (pss_one (ps_ret (pe_ix (ix_k K) (xv 2) (xv 0) (fun _ _ => rfl)))))), ?_⟩
    have zl := hz.hi
    have z1 := hz.lo
    have ls : ∀ x : Str, x.length ≤ 20 → x.length + z.length ≤ sizeLine ∧ z.length + x.length ≤ sizeLine := fun x hx => ⟨small (by omega), small (by omega)⟩
    refine ⟨⟨z, rfl⟩, z, rfl, rfl, by omega, ⟨(ls " " (by decide +kernel)).2, fun r1 e1 => ⟨(ls " " (by decide +kernel)).1, fun r2 e2 => ⟨(ls "1" (by decide +kernel)).2, fun r3 e3 => ⟨(ls "_" (by decide +kernel)).2, fun r4 e4 => ⟨by decide, by decide, z1, by omega, ⟨(ls "abcdefgh" (by decide +kernel)).2, fun r5 e5 => ⟨sz, fun D nD => ?_⟩⟩⟩⟩⟩⟩⟩⟩
    have S1 := S.new (o := .lst [V.str "", .str (Txt.upper z), .str r1, .str r2, .str r3, .str r4, .str (repS z (Int.toNat 9)), .str r5, .int odd, .non]) nD
    refine ⟨.inl ⟨rfl, _, SqL.of S1.hd⟩, sz, fun t1 n1 => ?_⟩
    obtain ⟨G2, s2, S2, k2⟩ := Sep.mk (o := .tup [.str z]) S1 n1
    refine ⟨sz, fun t2 n2 => ?_⟩
    obtain ⟨G3, s3, S3, k3⟩ := Sep.mk (o := .lst [.str z]) S2 n2
    refine ⟨(ls "\n" (by decide +kernel)).2, fun r6 e6 => ⟨sz, fun W nW => ?_⟩⟩
    have S4 := S3.new (o := .lst [V.bl true, .ref t1, .ref t2, .str r6]) nW
    refine ⟨D, W, _, _, rfl, rfl, S4.sw.hd, S4.hd, sz, ?_⟩
    have S5 := S4.sw.set (o' := .lst ([V.str "", .str (Txt.upper z), .str r1, .str r2, .str r3, .str r4, .str (repS z (Int.toNat 9)), .str r5, .int odd, .non] ++ [V.bl true, .ref t1, .ref t2, .str r6]))
    have e1 : r1 = z ++ " " := e1
    have e2 : r2 = " " ++ z := e2
    have e3 : r3 = z ++ "1" := e3
    have e4 : r4 = z ++ "_" := e4
    have e5 : r5 = z ++ "abcdefgh" := e5
    have e6 : r6 = z ++ "\n" := e6
    have lw := lt_low hz
    have lo1 : Low 1 (" " : Str) := .lit (by decide +kernel) (by decide +kernel)
    have lo3 : Low 1 ("1" : Str) := .lit (by decide +kernel) (by decide +kernel)
    have lo4 : Low 1 ("_" : Str) := .lit (by decide +kernel) (by decide +kernel)
    have lo5 : Low 8 ("abcdefgh" : Str) := .lit (by decide +kernel) (by decide +kernel)
    have lo6 : Low 1 ("\n" : Str) := .lit (by decide +kernel) (by decide +kernel)
    have st : ∀ {n : Nat} {x : Str}, Low n x → n ≤ 74 → OkE 760 1 (.str x) := fun h hn => (h.ok (by omega)).mono (Nat.le_refl _) (by decide)
    have hds : DpAll K G3 ([V.str "", .str (Txt.upper z), .str r1, .str r2, .str r3, .str r4, .str (repS z (Int.toNat 9)), .str r5, .int odd, .non] ++ [V.bl true, .ref t1, .ref t2, .str r6])
        [.str "", .str (Txt.upper z), .str r1, .str r2, .str r3, .str r4, .str (repS z (Int.toNat 9)), .str r5, .int odd, .none, .bool true, .tuple [.str z], .list [.str z], .str r6] :=
      .cons (.str _) (.cons (.str _) (.cons (.str _) (.cons (.str _) (.cons (.str _) (.cons (.str _) (.cons (.str _) (.cons (.str _) (.cons (.int _) (.cons .non (.cons (.bl _) (.cons (.tup (SqT.of (s3 _ _ k2)) (.cons (.str _) .nil)) (.cons (.lst (SqL.of k3) (.cons (.str _) .nil)) (.cons (.str _) .nil)))))))))))))
    have oks : ∀ y ∈ ([.str "", .str (Txt.upper z), .str r1, .str r2, .str r3, .str r4, .str (repS z (Int.toNat 9)), .str r5, .int odd, .none, .bool true, .tuple [.str z], .list [.str z], .str r6] : List PyData), OkE 760 1 y :=
      ok_cons ((OkE.lit (b := 35) (by decide +kernel) (by decide +kernel)).mono (by decide) (by decide)) (ok_cons ((OkE.upper hz (by decide)).mono (Nat.le_refl _) (by decide)) (ok_cons (by rw [e1]; exact st (lw.app lo1) (by decide)) (ok_cons (by rw [e2]; exact st (lo1.app lw) (by decide)) (ok_cons (by rw [e3]; exact st (lw.app lo3) (by decide)) (ok_cons (by rw [e4]; exact st (lw.app lo4) (by decide)) (ok_cons (st (lw.rep _) (by decide)) (ok_cons (by rw [e5]; exact st (lw.app lo5) (by decide))
        (ok_cons ((OkE.num (by omega) (by omega)).mono (by decide) (by decide)) (ok_cons (OkE.none.mono (by decide) (by decide)) (ok_cons ((OkE.bool _).mono (by decide) (by decide)) (ok_cons ((OkEs.one (lw.ok (b := 100) (by decide))).tup.mono (by decide) (by decide)) (ok_cons ((OkEs.one (lw.ok (b := 100) (by decide))).lst.mono (by decide) (by decide)) (ok_cons (by rw [e6]; exact st (lw.app lo6) (by decide)) ok_nil)))))))))))))
    obtain ⟨v, d, hat, hv, okd⟩ := dp_pick hds oks o0 o1
    exact ⟨_, v, .inl (SqL.of S5.hd), hat, q v d G3 _ (s2.trans s3) S5.drop.drop hv okd⟩

end
end K02
set_option Elab.async false
set_option linter.all false
set_option maxRecDepth 100000
set_option maxHeartbeats 4000000
namespace K02
open PySem PySem.Spec PyProof.Rows L2 XL
section
variable {P : Program} {w : World} {K : PySem.W.Frag} {mg : Str → Option Value} {base : Heap}
/-! ### a thing that is wrong by itself -/
theorem cutV_til (xs : List V) (k : Nat) (h : k ≤ xs.length) : cutV xs none (some (k : Int)) = xs.take k := by
  unfold cutV
  rw [HT.sIx_none, HT.sIx_nat, Nat.min_eq_left h, List.drop_zero, Nat.sub_zero]
theorem sw_app : ∀ xs ys : List PyData, PyData.showableAll (xs ++ ys) = (PyData.showableAll xs && PyData.showableAll ys)
  | [], ys => by simp [PyData.showableAll]
  | x :: r, ys => by simp only [List.cons_append, PyData.showableAll, sw_app r ys, Bool.and_assoc]
theorem tb_app : ∀ xs ys : List PyData, PySem.tbEs (xs ++ ys) = PySem.tbEs xs + PySem.tbEs ys
  | [], ys => by simp [PySem.tbEs]
  | x :: r, ys => by simp only [List.cons_append, PySem.tbEs, tb_app r ys]; omega
theorem wt_app : ∀ xs ys : List PyData, PyData.weightAll (xs ++ ys) = PyData.weightAll xs + PyData.weightAll ys
  | [], ys => by simp [PyData.weightAll]
  | x :: r, ys => by simp only [List.cons_append, PyData.weightAll, wt_app r ys]; omega
theorem dep_app : ∀ xs ys : List PyData, PyData.depthAll (xs ++ ys) = max (PyData.depthAll xs) (PyData.depthAll ys)
  | [], ys => by simp [PyData.depthAll]
  | x :: r, ys => by simp only [List.cons_append, PyData.depthAll, dep_app r ys]; omega
theorem OkEs.app {b c dp : Nat} {xs ys : List PyData} (hx : OkEs b dp xs) (hy : OkEs c dp ys) : OkEs (b + c) dp (xs ++ ys) := by
  refine ⟨by rw [sw_app, hx.sw, hy.sw]; rfl, ?_, ?_, ?_⟩
  · rw [tb_app]; have := hx.tb; have := hy.tb; omega
  · rw [wt_app]; have := hx.wt; have := hy.wt; omega
  · rw [dep_app]; have := hx.dp; have := hy.dp; omega
theorem OkEs.take {b dp : Nat} {xs : List PyData} (n : Nat) (h : OkEs b dp xs) : OkEs b dp (xs.take n) := by
  have e := (List.take_append_drop n xs).symm
  have h1 := h.sw
  have h2 := h.tb
  have h3 := h.wt
  have h4 := h.dp
  rw [e, sw_app, Bool.and_eq_true] at h1
  rw [e, tb_app] at h2
  rw [e, wt_app] at h3
  rw [e, dep_app] at h4
  exact ⟨h1.1, by omega, by omega, by omega⟩
theorem head_lt {u : Str} (h : headN u ≠ 0) : Lt 1 4 u := by
  rcases headN_some h with rfl | rfl | rfl | rfl | rfl <;> exact ⟨by decide +kernel, by decide +kernel, by decide +kernel⟩
def spBad (K : PySem.W.Frag) : Sp := fun vs H Q _ => ∃ (G : Hp) (M : List (Addr × HO)) (p : Addr) (u : Str) (ws : List V) (r : List PyData) (b dp : Nat) (how odd : Int) (z : Str), vs = [.ref p, .int how, .int odd, .str z] ∧ Sep G M H ∧ SqT K G p (.str u :: ws) ∧ DpAll K G ws r ∧ headN u = r.length + 1 ∧ OkE b dp (.tuple (.str u :: r)) ∧ 0 ≤ how ∧ how < 12 ∧ 0 ≤ odd ∧ odd < 14 ∧ Lt 1 8 z ∧
  ∀ (v : V) (d : PyData) (G' H' : Hp), Same G G' → Sep G' M H' → Dp K G' v d → OkE (b + 850) (dp + 1) d → Q v H'
theorem ok_bad (T : Top K mg w) {k : Nat} (G_odd_value : FnOk P w K mg base CX0 k T.a_odd_value T.d_odd_value ["_law_odd", "_law_told"] (spOddV K)) (G_odd_name : FnOk P w K mg base CX0 k T.a_odd_name T.d_odd_name ["_law_odd", "_law_told"] (spOddV K)) :
    FnOk P w K mg base CX0 (k + 1) T.a_bad T.d_bad ["_law_part", "_law_how", "_law_odd", "_law_told"] (spBad K) := by
  refine T.F_bad.ok sc_bad (fun vs H Q E h => ?_) (fun cdv A outer s H vs Q E hr h => ?_)
  · obtain ⟨G, M, p, u, ws, r, b, dp, how, odd, z, rfl, _⟩ := h
    rfl
  · obtain ⟨G, M, p, u, ws, r, b, dp, how, odd, z, rfl, S, hp, hws, hu, ok, h0, h1, o0, o1, hz, q⟩ := h
    refine ⟨_, (pss_cons (xs_if (xt_cmp op_ltY (xv 1) pe_int (nomark _))
      (pss_one (ps_ret (pe_ix (ix_k K) (pe_lst (pa_cons pe_non (pa_cons (xv 2) (pa_cons (xv 3) (pa_cons (pe_callTy (call_listK K) (by rfl) T.m_list (by decide +kernel) (pa_cons (xv 0) pa_nil)) (pa_cons pe_bl (pa_cons pe_dnewK (pa_cons (pe_ix (ix_k K) (xv 0) pe_int (fun _ _ => rfl)) (pa_cons (pe_lst pa_nil) pa_nil))))))))) (pe_op op_modY (pe_callTy cr_int (by rfl) T.m_int (by decide +kernel) (pa_cons (xv 2) pa_nil)) pe_int) (fun _ _ => rfl))))
      pss_nil)
      (pss_cons (xs_if (xt_cmp (op_eqLK K hr.u190) (xv 1) pe_int (nomark _))
      (pss_one (ps_ret (pe_tup pa_nil)))
      pss_nil)
      (pss_cons (xs_if (xt_cmp (op_eqLK K hr.u190) (xv 1) pe_int (nomark _))
      (pss_one (ps_ret (pe_tup (pa_cons (pe_ix (ix_k K) (xv 0) pe_int (fun _ _ => rfl)) pa_nil))))
      pss_nil)
      (pss_cons (xs_if (xt_cmp (op_eqLK K hr.u190) (xv 1) pe_int (nomark _))
      (pss_one (ps_ret (pe_op (op_catAK K) (xv 0) (pe_tup (pa_cons (pe_tup (pa_cons pe_str (pa_cons pe_int pa_nil))) pa_nil)))))
      pss_nil)
      (pss_cons (xs_if (xt_cmp (op_eqLK K hr.u190) (xv 1) pe_int (nomark _))
      (pss_one (ps_ret (pe_slice sl_tup (xv 0) po_none (po_some (pe_op op_subY (pe_callB (cr_lenK K) (by rfl) T.m_len (by decide +kernel) (pa_cons (xv 0) pa_nil)) pe_int)))))
      pss_nil)
      (pss_cons (xs_if (xt_cmp (op_eqLK K hr.u190) (xv 1) pe_int (nomark _))
      (pss_one (ps_ret (pe_tup (pa_cons (xv 0) pa_nil))))
      pss_nil)
      (pss_cons (xs_if (xt_cmp (op_eqLK K hr.u190) (xv 1) pe_int (nomark _))
      (pss_one (ps_ret (pe_op (op_catAK K) (pe_tup (pa_cons (xe_if (xt_cmp (op_neLK K hr.u190) (pe_callB (cr_lenK K) (by rfl) T.m_len (by decide +kernel) (pa_cons (xv 0) pa_nil)) pe_int (nomark _)) pe_str pe_str) pa_nil)) (pe_slice sl_tup (xv 0) (po_some pe_int) po_none))))
      pss_nil)
      (pss_cons (xs_if (xt_cmp op_ltY (xv 1) pe_int (nomark _))
      (pss_cons (ps_set (i := 4) sc_bad.nd rfl (.inl rfl) (pe_lst (pa_cons pe_str (pa_cons pe_str (pa_cons pe_str (pa_cons pe_str (pa_cons pe_str (pa_cons pe_str (pa_cons pe_non (pa_cons (xv 2) (pa_cons (pe_tup (pa_cons pe_str pa_nil)) (pa_cons (pe_lst (pa_cons pe_str pa_nil)) (pa_cons pe_bl (pa_cons (pe_op op_addY (pe_ix (ix_k K) (xv 0) pe_int (fun _ _ => rfl)) pe_str) pa_nil))))))))))))))
      (pss_cons (ps_expr (pe_bmK K PySem.F.plainAttrs_list PySem.F.slot_list_extend PySem.F.type_list_extend mt_extend (xv 4) (pa_cons (pe_lst (pa_cons (pe_upper (pe_ix (ix_k K) (xv 0) pe_int (fun _ _ => rfl))) (pa_cons (pe_op op_addY (xv 3) (xv 3)) pa_nil))) pa_nil)))
      (pss_one (ps_ret (pe_op (op_catAK K) (pe_tup (pa_cons (pe_ix (ix_k K) (xv 4) (xv 2) (fun _ _ => rfl)) pa_nil)) (pe_slice sl_tup (xv 0) (po_some pe_int) po_none))))))
      pss_nil)
      (pss_cons (xs_if (xt_cmp (op_eqLK K hr.u190) (xv 1) pe_int (nomark _))
      (pss_one (ps_ret (pe_tup (pa_cons pe_str (pa_cons (pe_call G_odd_value (hr.mono (by omega)) (by rfl) T.g_odd_value T.F_odd_value.kp T.b_odd_value .nil pass0 (pa_cons (xv 2) (pa_cons (xv 3) pa_nil))) pa_nil)))))
      pss_nil)
      (pss_one (ps_ret (pe_tup (pa_cons pe_str (pa_cons (pe_call G_odd_name (hr.mono (by omega)) (by rfl) T.g_odd_name T.F_odd_name.kp T.b_odd_name .nil pass0 (pa_cons (xv 2) (pa_cons (xv 3) pa_nil))) pa_nil)))))))))))))), ?_⟩
    have hl := head_lt (u := u) (by omega)
    have u4 := hl.hi
    have r3 : r.length ≤ 3 := by
      have : headN u ≤ 4 := by unfold headN; (repeat' split) <;> omega
      omega
    have wl := dpa_len hws
    have kids := ok.kids
    have tl := kids.tl
    have dp1 : 1 ≤ dp := by
      have := ok.dp
      simp only [PyData.depth] at this
      omega
    have h1' := S.t hp
    have at0 : ∀ {H' : Hp}, atI (V.str u :: ws) 0 = some (.str u) := atI_nat (j := 0) rfl
    have hpd : Dp K G (.ref p) (.tuple (.str u :: r)) := .tup hp (.cons (.str _) hws)
    have m0 : ∀ {c : Nat} {d : PyData}, OkE c 0 d → c ≤ 850 → OkE (b + 850) (dp + 1) d := fun h hc => h.mono (by omega) (by omega)
    refine ⟨fun e => ?c0, fun e => ⟨fun e => ?c2, fun e => ⟨fun e => ?c3, fun e => ⟨fun e => ?c4, fun e => ⟨fun e => ?c5, fun e => ⟨fun e => ?c6, fun e => ⟨fun e => ?c7, fun e => ⟨fun e => ?c8, fun e => ⟨fun e => ?c10, fun e => ?c11⟩⟩⟩⟩⟩⟩⟩⟩⟩
    case c0 =>
      refine ⟨p, _, rfl, .inr h1', fun t1 n1 => ?_⟩
      obtain ⟨G1, s1, S1, k1⟩ := Sep.mk (o := .lst (.str u :: ws)) S n1
      intro t2 n2
      obtain ⟨G2, s2, S2, k2⟩ := Sep.mk (o := .dK []) S1 n2
      have s12 := s1.trans s2
      refine ⟨_, _, .inr (S2.t (same_t s12 hp)), atI_nat (j := 0) rfl, sz, fun t3 n3 => ?_⟩
      obtain ⟨G3, s3, S3, k3⟩ := Sep.mk (o := .lst []) S2 n3
      have s13 := s12.trans s3
      refine ⟨sz, fun D nD => ?_⟩
      have S4 := S3.new (o := .lst [V.non, .int odd, .str z, .ref t1, .bl true, .ref t2, .str u, .ref t3]) nD
      refine ⟨by decide, fun i _ i0 i1 => ?_⟩
      have hds : DpAll K G3 [V.non, .int odd, .str z, .ref t1, .bl true, .ref t2, .str u, .ref t3] [.none, .int odd, .str z, .list (.str u :: r), .bool true, .dict [], .str u, .list []] :=
        .cons .non (.cons (.int _) (.cons (.str _) (.cons (.lst (SqL.of ((s2.trans s3) _ _ k1)) (.cons (.str _) (dpa_same s13 hws))) (.cons (.bl _) (.cons (.emp (s3 _ _ k2)) (.cons (.str _) (.cons (.lst (SqL.of k3) .nil) .nil)))))))
      have oks : ∀ y ∈ ([.none, .int odd, .str z, .list (.str u :: r), .bool true, .dict [], .str u, .list []] : List PyData), OkE (b + 850) (dp + 1) y :=
        ok_cons (m0 OkE.none (by decide)) (ok_cons (m0 (OkE.num (by omega) (by omega)) (by decide)) (ok_cons (m0 ((lt_low hz).ok (b := 100) (by decide)) (by decide)) (ok_cons (ok.as_list.mono (by omega) (by omega)) (ok_cons (m0 (OkE.bool _) (by decide)) (ok_cons (OkE.emp.mono (by omega) (by omega)) (ok_cons (m0 ((lt_low hl).ok (b := 100) (by decide)) (by decide)) (ok_cons ((OkEs.nil (dp := 0)).lst.mono (by omega) (by omega)) ok_nil)))))))
      obtain ⟨v, d, hat, hv, okd⟩ := dp_pick hds oks i0 i1
      exact ⟨_, v, .inl (SqL.of S4.hd), hat, q v d G3 _ s13 S4.drop hv okd⟩
    case c2 =>
      refine ⟨sz, fun t nt => ?_⟩
      obtain ⟨G1, s1, S1, k1⟩ := Sep.mk (o := .tup []) S nt
      exact q _ (.tuple []) G1 _ s1 S1 (.tup (SqT.of k1) .nil) ((OkEs.nil (dp := 0)).tup.mono (by omega) (by omega))
    case c3 =>
      refine ⟨_, _, .inr h1', atI_nat (j := 0) rfl, sz, fun t nt => ?_⟩
      obtain ⟨G1, s1, S1, k1⟩ := Sep.mk (o := .tup [.str u]) S nt
      exact q _ (.tuple [.str u]) G1 _ s1 S1 (.tup (SqT.of k1) (.cons (.str _) .nil)) ((OkEs.one ((lt_low hl).ok (b := 100) (by decide))).tup.mono (by omega) (by omega))
    case c4 =>
      refine ⟨sz, fun t1 n1 => ?_⟩
      obtain ⟨G1, s1, S1, k1⟩ := Sep.mk (o := .tup [.str "is", .int 0]) S n1
      refine ⟨sz, fun t2 n2 => ?_⟩
      obtain ⟨G2, s2, S2, k2⟩ := Sep.mk (o := .tup [.ref t1]) S1 n2
      refine cat_ok S2 (same_t (s1.trans s2) hp) (SqT.of k2) (by rw [List.length_cons, List.length_singleton, sizeLine_eq]; omega) fun c3 G3 H3 s3 hc3 S3 => ?_
      have s13 := s1.trans (s2.trans s3)
      have l1 : OkE 90 1 (.tuple [.str "is", .int 0]) := (OkEs.cons (OkE.lit (b := 35) (by decide +kernel) (by decide +kernel)) (.one (OkE.num (by decide) (by decide)))).tup.mono (by decide) (by decide)
      exact q _ (.tuple ((.str u :: r) ++ [.tuple [.str "is", .int 0]])) G3 H3 s13 S3 (.tup hc3 (dpa_app (.cons (.str _) (dpa_same s13 hws)) (.cons (.tup (SqT.of ((s2.trans s3) _ _ k1)) (.cons (.str _) (.cons (.int _) .nil))) .nil)))
        (((kids.mono (Nat.le_refl _) (by omega)).app (OkEs.one (l1.mono (Nat.le_refl _) dp1))).tup.mono (by omega) (Nat.le_refl _))
    case c5 =>
      refine ⟨_, .inr h1', (ws.length : Nat), by rw [List.length_cons]; congr 1; omega, p, _, rfl, h1', ?_, fun t nt => ?_⟩
      · rintro ⟨_, y⟩
        rw [show HT.sIx (V.str u :: ws).length (V.str u :: ws).length (some ((ws.length : Nat) : Int)) = min ws.length (V.str u :: ws).length from HT.sIx_nat _ _ _, List.length_cons] at y
        omega
      · rw [cutV_til _ _ (by rw [List.length_cons]; omega)] at *
        obtain ⟨G1, s1, S1, k1⟩ := Sep.mk (o := .tup ((V.str u :: ws).take ws.length)) S nt
        exact q _ (.tuple ((.str u :: r).take ws.length)) G1 _ s1 S1 (.tup (SqT.of k1) (dpa_take _ (.cons (.str _) (dpa_same s1 hws)))) ((kids.take _).tup.mono (by omega) (by omega))
    case c6 =>
      refine ⟨sz, fun t nt => ?_⟩
      obtain ⟨G1, s1, S1, k1⟩ := Sep.mk (o := .tup [.ref p]) S nt
      exact q _ (.tuple [.tuple (.str u :: r)]) G1 _ s1 S1 (.tup (SqT.of k1) (.cons (dp_same s1 hpd) .nil)) ((OkEs.one ok).tup.mono (by omega) (Nat.le_refl _))
    case c7 =>
      refine ⟨_, .inr h1', fun e7 => ?_, fun e7 => ?_⟩
      · refine ⟨sz, fun t5 nt5 => ?_⟩
        obtain ⟨G5, s5, S5, k5⟩ := Sep.mk (o := .tup [.str "sum"]) S nt5
        refine ⟨1, rfl, p, _, rfl, S5.t (same_t (s5) hp), tailD_ok (K := K) ws _, fun t6 nt6 => ?_⟩
        rw [cutT1] at *
        obtain ⟨G6, s6, S6, k6⟩ := Sep.mk (o := .tup ws) S5 nt6
        refine cat_ok S6 (same_t s6 (SqT.of k5)) (SqT.of k6) (by rw [List.length_singleton, sizeLine_eq]; omega) fun c7 G7 H7 s7 hc7 S7 => ?_
        have s07 := (s5).trans (s6.trans s7)
        exact q _ (.tuple (.str "sum" :: r)) G7 H7 s07 S7 (.tup hc7 (.cons (.str _) (dpa_same s07 hws))) ((OkEs.cons ((OkE.lit (b := 55) (by decide +kernel) (by decide +kernel)).mono (Nat.le_refl _) (Nat.zero_le _)) (tl.mono (Nat.le_refl _) (by omega))).tup.mono (by omega) (Nat.le_refl _))
      · refine ⟨sz, fun t5 nt5 => ?_⟩
        obtain ⟨G5, s5, S5, k5⟩ := Sep.mk (o := .tup [.str "pick"]) S nt5
        refine ⟨1, rfl, p, _, rfl, S5.t (same_t (s5) hp), tailD_ok (K := K) ws _, fun t6 nt6 => ?_⟩
        rw [cutT1] at *
        obtain ⟨G6, s6, S6, k6⟩ := Sep.mk (o := .tup ws) S5 nt6
        refine cat_ok S6 (same_t s6 (SqT.of k5)) (SqT.of k6) (by rw [List.length_singleton, sizeLine_eq]; omega) fun c7 G7 H7 s7 hc7 S7 => ?_
        have s07 := (s5).trans (s6.trans s7)
        exact q _ (.tuple (.str "pick" :: r)) G7 H7 s07 S7 (.tup hc7 (.cons (.str _) (dpa_same s07 hws))) ((OkEs.cons ((OkE.lit (b := 55) (by decide +kernel) (by decide +kernel)).mono (Nat.le_refl _) (Nat.zero_le _)) (tl.mono (Nat.le_refl _) (by omega))).tup.mono (by omega) (Nat.le_refl _))
    case c8 =>
      refine ⟨sz, fun t1 n1 => ?_⟩
      obtain ⟨G1, s1, S1, k1⟩ := Sep.mk (o := .tup [.str "is"]) S n1
      refine ⟨sz, fun t2 n2 => ?_⟩
      obtain ⟨G2, s2, S2, k2⟩ := Sep.mk (o := .lst [.str "is"]) S1 n2
      have s12 := s1.trans s2
      have hp2 := same_t s12 hp
      refine ⟨_, _, .inr (S2.t hp2), atI_nat (j := 0) rfl, small (by rw [show ("s" : Str).length = 1 by decide +kernel]; omega), fun r1 e1 => ⟨sz, fun D nD => ?_⟩⟩
      have e1 : r1 = u ++ "s" := e1
      have S3 := S2.new (o := .lst [V.str "", .str "Is", .str "get ", .str " sum", .str "sums", .str "item", .non, .int odd, .ref t1, .ref t2, .bl true, .str r1]) nD
      refine ⟨.inl ⟨rfl, _, SqL.of S3.hd⟩, _, _, .inr (S3.t hp2), atI_nat (j := 0) rfl, ⟨u, rfl⟩, u, rfl, rfl, by omega, small (by have := hz.hi; omega), fun r2 e2 => ⟨sz, fun W nW => ?_⟩⟩
      have e2 : r2 = z ++ z := e2
      have S4 := S3.new (o := .lst [V.str (Txt.upper u), .str r2]) nW
      refine ⟨D, W, _, _, rfl, rfl, S4.sw.hd, S4.hd, sz, ?_⟩
      have S5' := S4.sw.set (o' := .lst ([V.str "", .str "Is", .str "get ", .str " sum", .str "sums", .str "item", .non, .int odd, .ref t1, .ref t2, .bl true, .str r1] ++ [V.str (Txt.upper u), .str r2]))
      have lu := lt_low hl
      have lz := lt_low hz
      have lit : ∀ x : Str, (x.cps.toList.all fun c => decide (c < 1114112)) = true → x.length ≤ 8 → OkE 760 1 (.str x) := fun x h1 h2 => (OkE.lit (b := 95) h1 (by omega)).mono (by decide) (by decide)
      have hds : DpAll K G2 ([V.str "", .str "Is", .str "get ", .str " sum", .str "sums", .str "item", .non, .int odd, .ref t1, .ref t2, .bl true, .str r1] ++ [V.str (Txt.upper u), .str r2]) [.str "", .str "Is", .str "get ", .str " sum", .str "sums", .str "item", .none, .int odd, .tuple [.str "is"], .list [.str "is"], .bool true, .str r1, .str (Txt.upper u), .str r2] :=
        .cons (.str _) (.cons (.str _) (.cons (.str _) (.cons (.str _) (.cons (.str _) (.cons (.str _) (.cons .non (.cons (.int _) (.cons (.tup (SqT.of (s2 _ _ k1)) (.cons (.str _) .nil)) (.cons (.lst (SqL.of k2) (.cons (.str _) .nil)) (.cons (.bl _) (.cons (.str _) (.cons (.str _) (.cons (.str _) .nil)))))))))))))
      have oks : ∀ y ∈ ([.str "", .str "Is", .str "get ", .str " sum", .str "sums", .str "item", .none, .int odd, .tuple [.str "is"], .list [.str "is"], .bool true, .str r1, .str (Txt.upper u), .str r2] : List PyData), OkE 760 1 y :=
        ok_cons (lit _ (by decide +kernel) (by decide +kernel)) (ok_cons (lit _ (by decide +kernel) (by decide +kernel)) (ok_cons (lit _ (by decide +kernel) (by decide +kernel)) (ok_cons (lit _ (by decide +kernel) (by decide +kernel)) (ok_cons (lit _ (by decide +kernel) (by decide +kernel)) (ok_cons (lit _ (by decide +kernel) (by decide +kernel)) (ok_cons (OkE.none.mono (by decide) (by decide)) (ok_cons ((OkE.num (by omega) (by omega)).mono (by decide) (by decide))
          (ok_cons ((OkEs.one (OkE.lit (b := 95) (by decide +kernel) (by decide +kernel))).tup.mono (by decide) (by decide)) (ok_cons ((OkEs.one (OkE.lit (b := 95) (by decide +kernel) (by decide +kernel))).lst.mono (by decide) (by decide)) (ok_cons ((OkE.bool _).mono (by decide) (by decide))
          (ok_cons (by rw [e1]; exact ((lu.app (Low.lit (n := 1) (by decide +kernel) (by decide +kernel))).ok (b := 760) (by decide)).mono (Nat.le_refl _) (by decide)) (ok_cons ((OkE.upper hl (by decide)).mono (Nat.le_refl _) (by decide)) (ok_cons (by rw [e2]; exact ((lz.app lz).ok (b := 760) (by decide)).mono (Nat.le_refl _) (by decide)) ok_nil)))))))))))))
      obtain ⟨v, d, hat, hv, okd⟩ := dp_pick hds oks o0 o1
      have S8 := S5'.drop.drop
      · refine ⟨_, v, .inl (SqL.of S5'.hd), hat, sz, fun t5 nt5 => ?_⟩
        obtain ⟨G5, s5, S5, k5⟩ := Sep.mk (o := .tup [v]) S8 nt5
        refine ⟨1, rfl, p, _, rfl, S5.t (same_t (s12.trans s5) hp), tailD_ok (K := K) ws _, fun t6 nt6 => ?_⟩
        rw [cutT1] at *
        obtain ⟨G6, s6, S6, k6⟩ := Sep.mk (o := .tup ws) S5 nt6
        refine cat_ok S6 (same_t s6 (SqT.of k5)) (SqT.of k6) (by rw [List.length_singleton, sizeLine_eq]; omega) fun c7 G7 H7 s7 hc7 S7 => ?_
        have s07 := (s12.trans s5).trans (s6.trans s7)
        exact q _ (.tuple (d :: r)) G7 H7 s07 S7 (.tup hc7 (.cons (dp_same (s5.trans (s6.trans s7)) hv) (dpa_same s07 hws))) ((OkEs.cons (okd.mono (Nat.le_refl _) dp1) (tl.mono (Nat.le_refl _) (by omega))).tup.mono (by omega) (Nat.le_refl _))
    case c10 =>
      refine ⟨G, M, odd, z, rfl, S, o0, o1, hz, fun v d G1 H1 s1 S1 hv okd => ⟨sz, fun t nt => ?_⟩⟩
      obtain ⟨G2, s2, S2, k2⟩ := Sep.mk (o := .tup [.str "is", v]) S1 nt
      exact q _ (.tuple [.str "is", d]) G2 _ (s1.trans s2) S2 (.tup (SqT.of k2) (.cons (.str _) (.cons (dp_same s2 hv) .nil))) ((OkEs.cons ((OkE.lit (b := 35) (by decide +kernel) (by decide +kernel)).mono (Nat.le_refl _) (by decide)) (.one okd)).tup.mono (by omega) (by omega))
    case c11 =>
      refine ⟨G, M, odd, z, rfl, S, o0, o1, hz, fun v d G1 H1 s1 S1 hv okd => ⟨sz, fun t nt => ?_⟩⟩
      obtain ⟨G2, s2, S2, k2⟩ := Sep.mk (o := .tup [.str "get", v]) S1 nt
      exact q _ (.tuple [.str "get", d]) G2 _ (s1.trans s2) S2 (.tup (SqT.of k2) (.cons (.str _) (.cons (dp_same s2 hv) .nil))) ((OkEs.cons ((OkE.lit (b := 45) (by decide +kernel) (by decide +kernel)).mono (Nat.le_refl _) (by decide)) (.one okd)).tup.mono (by omega) (by omega))

end
end K02
set_option Elab.async false
set_option linter.all false
set_option maxRecDepth 100000
set_option maxHeartbeats 4000000
namespace K02
open PySem PySem.Spec PyProof.Rows L2 XL
section
variable {P : Program} {w : World} {K : PySem.W.Frag} {mg : Str → Option Value} {base : Heap}
/-! ### spoils -/
def spSpoils (K : PySem.W.Frag) : Sp := fun vs H Q _ => ∃ (G : Hp) (M : List (Addr × HO)) (b : Addr) (o : HO) (l : Addr) (ns : List Str) (v : V) (f : Gm), vs = [.ref b, .ref l, v] ∧ Sep G ((b, o) :: M) H ∧ Bag G o ∧ G l = some (.lst (ns.map V.str)) ∧ 0 < ns.length ∧ ns.length ≤ 100 ∧ GmAt K G v f ∧ f.dep ≤ 40 ∧ f.cnt ≤ 500 ∧
  ∀ (L : Addr) (us : List V) (ss : List Spl) (o' : HO) (G' H' : Hp), Same G G' → G' L = some (.lst us) → Paired (SplAt ns (f.cnt : Nat) G') us ss → ss.length ≤ 2 → Bag G' o' → Sep G' ((b, o') :: M) H' → Q (.ref L) H'
theorem ok_spoils (T : Top K mg w) {k : Nat} (G_pick : FnOk P w K mg base CX0 k T.a_pick T.d_pick ["_law_bag_here", "_law_many"] spPick) (G_choice : FnOk P w K mg base CX0 k T.a_choice T.d_choice ["_law_bag_here", "_law_things"] (spChoice K)) (G_count : FnOk P w K mg base CX0 k T.a_count T.d_count ["_law_parts"] (spCnt K 40)) :
    FnOk P w K mg base CX0 (k + 1) T.a_spoils T.d_spoils ["_law_bag_here", "_law_used", "_law_parts"] (spSpoils K) := by
  refine T.F_spoils.ok sc_spoils (fun vs H Q E h => ?_) (fun cdv A outer s H vs Q E hr h => ?_)
  · obtain ⟨G, M, b, o, l, ns, v, f, rfl, _⟩ := h
    rfl
  · obtain ⟨G, M, b, o, l, ns, v, f, rfl, S, B, hl, x0, x1, hf, hd, hc, q⟩ := h
    refine ⟨_, (pss_cons (ps_set (i := 3) sc_spoils.nd rfl (.inl rfl) (pe_lst pa_nil))
      (pss_cons (ps_for PassesOwn.never rfl (pi_range1 (by rfl) T.m_range (pa_cons (pe_ix (ix_k K) (pe_lst (pa_cons pe_int (pa_cons pe_int (pa_cons pe_int (pa_cons pe_int pa_nil))))) (pe_call G_pick (hr.mono (by omega)) (by rfl) T.g_pick T.F_pick.kp T.b_pick .nil pass0 (pa_cons (xv 0) (pa_cons pe_int pa_nil))) (fun _ _ => rfl)) pa_nil)) (pg_name (i := 4) sc_spoils.nd rfl (.inl rfl))
      (pss_cons (ps_set (i := 5) sc_spoils.nd rfl (.inl rfl) (pe_call G_pick (hr.mono (by omega)) (by rfl) T.g_pick T.F_pick.kp T.b_pick .nil pass0 (pa_cons (xv 0) (pa_cons (pe_call G_count (hr.mono (by omega)) (by rfl) T.g_count T.F_count.kp T.b_count .nil pass0 (pa_cons (xv 2) pa_nil)) pa_nil))))
      (pss_one (ps_expr (pe_bmK K PySem.F.plainAttrs_list PySem.F.slot_list_append PySem.F.type_list_append mt_append (xv 3) (pa_cons (pe_tup (pa_cons (xv 5) (pa_cons (pe_call G_pick (hr.mono (by omega)) (by rfl) T.g_pick T.F_pick.kp T.b_pick .nil pass0 (pa_cons (xv 0) (pa_cons pe_int pa_nil))) (pa_cons (pe_call G_pick (hr.mono (by omega)) (by rfl) T.g_pick T.F_pick.kp T.b_pick .nil pass0 (pa_cons (xv 0) (pa_cons pe_int pa_nil))) (pa_cons (pe_call G_choice (hr.mono (by omega)) (by rfl) T.g_choice T.F_choice.kp T.b_choice .nil pass0 (pa_cons (xv 0) (pa_cons (xv 1) pa_nil))) pa_nil))))) pa_nil))))))
      (pss_one (ps_ret (xv 3))))), ?_⟩
    refine ⟨sz, fun L nL => ?_⟩
    have S1 := S.new (o := .lst []) nL
    refine ⟨sz, fun t1 n1 => ?_⟩
    have S2 := S1.newG (o := .lst [V.int 0, .int 1, .int 1, .int 2]) n1
    have s2 := S1.grow (o := .lst [V.int 0, .int 1, .int 1, .int 2]) n1
    refine ⟨_, _, b, o, 4, rfl, S2.sw, B.same s2, by decide, by decide, fun r o3 H3 r0 r1 B3 S3 => ?_⟩
    obtain ⟨m, hm, m2⟩ : ∃ m : Nat, atI [V.int 0, V.int 1, .int 1, .int 2] r = some (.int (m : Nat)) ∧ m ≤ 2 := by
      obtain rfl | rfl | rfl | rfl : r = 0 ∨ r = 1 ∨ r = 2 ∨ r = 3 := by omega
      · exact ⟨0, rfl, by decide⟩
      · exact ⟨1, rfl, by decide⟩
      · exact ⟨1, rfl, by decide⟩
      · exact ⟨2, rfl, by decide⟩
    refine ⟨_, _, .inl (SqL.of (S3.st upd_same)), hm, ?_⟩
    refine ⟨_, rfl, by omega, by omega, for_range (lo := 0) (n := m) (fun i σ H' => ∃ (y4 y5 : Option V) (G' : Hp) (o' : HO) (us : List V) (ss : List Spl), σ = [some (.ref b), some (.ref l), some v, some (.ref L), y4, y5] ∧ Same G G' ∧ Paired (SplAt ns (f.cnt : Nat) G') us ss ∧ ss.length = i ∧ Bag G' o' ∧ Sep G' ((b, o') :: (L, .lst us) :: M) H')
      ⟨_, _, _, o3, [], [], rfl, s2, .nil, rfl, B3, S3⟩ (fun i σ H' hi h => ?_) (fun σ H' h => ?_)⟩
    · obtain ⟨y4, y5, G4, o4, us, ss, rfl, s4, pu, sl, B4, S4⟩ := h
      refine ⟨G4, _, v, f, rfl, S4, hf.same' s4, hd, fun G5 H5 s5 S5 => ?_⟩
      have cp := f.cnt_pos
      refine ⟨G5, _, b, o4, _, rfl, S5, B4.same s5, by omega, by omega, fun r6 o6 H6 r60 r61 B6 S6 => ?_⟩
      refine ⟨.inl ⟨rfl, _, SqL.of S6.sw.hd⟩, ?_⟩
      refine ⟨G5, _, b, o6, 12, rfl, S6, B6, by decide, by decide, fun r7 o7 H7 r70 r71 B7 S7 => ?_⟩
      refine ⟨G5, _, b, o7, 14, rfl, S7, B7, by decide, by decide, fun r8 o8 H8 r80 r81 B8 S8 => ?_⟩
      refine ⟨G5, _, b, o8, l, _, rfl, S8, B8, SqL.of (s5 _ _ (s4 _ _ hl)), by rw [List.length_map]; omega, by rw [List.length_map]; omega, fun v9 o9 H9 hv9 B9 S9 => ?_⟩
      obtain ⟨z, hz, rfl⟩ := List.mem_map.mp hv9
      refine ⟨sz, fun t nt => ?_⟩
      obtain ⟨G10, s10, S10, k10⟩ := Sep.mk (o := .tup [.int r6, .int r7, .int r8, .str z]) S9 nt
      have ul := prd_len pu
      refine ⟨L, us, .ref t, rfl, rfl, S10.sw.hd, smallL (by omega), ?_⟩
      have s510 := s5.trans s10
      exact ⟨_, _, G10, o9, us ++ [.ref t], ss ++ [⟨r6, r7, r8, z⟩], rfl, s4.trans s510, prd_app (prd_imp (fun _ _ => SplAt.same s510) pu) (.cons ⟨t, rfl, k10, r60, r61, r70, r71, r80, r81, hz⟩ .nil), by rw [List.length_append, sl]; rfl, B9.same s10, S10.sw.set.sw⟩
    · obtain ⟨y4, y5, G4, o4, us, ss, rfl, s4, pu, sl, B4, S4⟩ := h
      obtain ⟨G5, s5, S5, k5⟩ := Sep.keep S4.sw
      exact q L us ss o4 G5 H' (s4.trans s5) k5 (prd_imp (fun _ _ => SplAt.same s5) pu) (by omega) (B4.same s5) S5

end
end K02
set_option Elab.async false
set_option linter.all false
set_option maxRecDepth 100000
set_option maxHeartbeats 4000000
namespace K02
open PySem PySem.Spec PyProof.Rows L2 XL
section
variable {P : Program} {w : World} {K : PySem.W.Frag} {mg : Str → Option Value} {base : Heap}
/-! ### a form that is spoilt -/
theorem Gm.dat_kids {f : Gm} (h : f.kids ≠ []) : f.dat = .tuple (.str f.word :: f.kids.map Gm.dat) := by
  cases f with
  | is n => exact absurd rfl h
  | get x => exact absurd rfl h
  | sum a b => rfl
  | same a b => rfl
  | pick a b c => rfl
theorem Gm.head_word {f : Gm} (h : f.kids ≠ []) : headN f.word = f.kids.length + 1 := by
  cases f with
  | is n => exact absurd rfl h
  | get x => exact absurd rfl h
  | sum a b => exact (by decide +kernel : headN "sum" = 3)
  | same a b => exact (by decide +kernel : headN "same" = 3)
  | pick a b c => exact (by decide +kernel : headN "pick" = 4)
theorem word_e : ∀ f : Gm, OkE 55 0 (.str f.word)
  | .is _ => (OkE.lit (by decide +kernel) (by decide +kernel) : OkE 55 0 (.str "is"))
  | .get _ => (OkE.lit (by decide +kernel) (by decide +kernel) : OkE 55 0 (.str "get"))
  | .sum _ _ => (OkE.lit (by decide +kernel) (by decide +kernel) : OkE 55 0 (.str "sum"))
  | .same _ _ => (OkE.lit (by decide +kernel) (by decide +kernel) : OkE 55 0 (.str "same"))
  | .pick _ _ _ => (OkE.lit (by decide +kernel) (by decide +kernel) : OkE 55 0 (.str "pick"))
theorem kids_at {K : PySem.W.Frag} {G : Hp} : ∀ {vs : List V} {gs : List Gm}, Paired (GmAt K G) vs gs → DpAll K G vs (gs.map Gm.dat)
  | _, _, .nil => .nil
  | _, _, .cons a b => .cons (gm_dp a) (kids_at b)
def spSpoilt (K : PySem.W.Frag) (D : Nat) : Sp := fun vs H Q _ => ∃ (G : Hp) (M : List (Addr × HO)) (v : V) (f : Gm) (ns : List Str) (n : Nat) (m : Int) (L : Addr) (us : List V) (ss : List Spl), vs = [v, .int (n : Nat), .ref L] ∧ Sep G M H ∧ GmAt K G v f ∧ f.ok ns ∧ NmL ns ∧ f.dep ≤ D ∧ f.cnt ≤ 500 ∧ G L = some (.lst us) ∧ Paired (SplAt ns m G) us ss ∧ ss.length ≤ 2 ∧
  ∀ (u : V) (d : PyData) (G' H' : Hp), Same G G' → Sep G' M H' → Dp K G' u d → OkE (160 * f.cnt + 850 * hits ss n (n + f.cnt : Nat)) (f.dep + hits ss n (n + f.cnt : Nat)) d → Q u H'
theorem ok_spoilt (T : Top K mg w) {k : Nat} (G_bad : FnOk P w K mg base CX0 (k + 41) T.a_bad T.d_bad ["_law_part", "_law_how", "_law_odd", "_law_told"] (spBad K)) (G_count : FnOk P w K mg base CX0 (k + 41) T.a_count T.d_count ["_law_parts"] (spCnt K 40)) :
    ∀ D : Nat, D ≤ 40 → FnOk P w K mg base CX0 (k + 41 + D) T.a_spoilt T.d_spoilt ["_law_parts", "_law_number_here", "_law_spoils_here"] (spSpoilt K D)
  | 0, _ => fn_false39 fun vs H Q E h => by
    obtain ⟨_, _, _, f, _, _, _, _, _, _, _, _, _, _, _, hd, _⟩ := h
    have := f.dep_pos
    omega
  | D + 1, hD => by
    have G_spoilt := ok_spoilt T G_bad G_count D (by omega)
    have G_bad := G_bad.mono (show k + 41 ≤ k + 41 + D by omega)
    have G_count := G_count.mono (show k + 41 ≤ k + 41 + D by omega)
    refine T.F_spoilt.ok sc_spoilt (fun vs H Q E h => ?_) (fun cdv A outer s H vs Q E hr h => ?_)
    · obtain ⟨G, M, v, f, ns, n, m, L, us, ss, rfl, _⟩ := h
      rfl
    · obtain ⟨G, M, v, f, ns, n, m, L, us, ss, rfl, S, hf, ok, hn, hd, hc, hL, pu, s2, q⟩ := h
      have hr : Room (k + 41 + D) (A.deeper (envOfC (Str.ofString "_law_spoilt") (defScope s_spoilt) s.heap.objs.size T.a_spoilt cdv)) := hr
      refine ⟨_, (pss_cons (ps_set (i := 3) sc_spoilt.nd rfl (.inl rfl) (xv 0))
      (xss_cut (xs_if (PW.pt (xw_and (xt_cmp (op_neLK K hr.u190) (pe_ix (ix_k K) (xv 0) pe_int (fun _ _ => rfl)) pe_str (nomark _)) (pw_and1 (xt_cmp (op_neLK K hr.u190) (pe_ix (ix_k K) (xv 0) pe_int (fun _ _ => rfl)) pe_str (nomark _)))))
      (pss_cons (ps_set (i := 4) sc_spoilt.nd rfl (.inl rfl) (pe_lst (pa_cons (pe_ix (ix_k K) (xv 0) pe_int (fun _ _ => rfl)) pa_nil)))
      (pss_cons (ps_set (i := 5) sc_spoilt.nd rfl (.inl rfl) (pe_op op_addY (xv 1) pe_int))
      (pss_cons (ps_for PassesOwn.never rfl (pi_tupK K (pe_slice sl_tup (xv 0) (po_some pe_int) po_none)) (pg_name (i := 6) sc_spoilt.nd rfl (.inl rfl))
      (pss_cons (ps_expr (pe_bmK K PySem.F.plainAttrs_list PySem.F.slot_list_append PySem.F.type_list_append mt_append (xv 4) (pa_cons (pe_call G_spoilt (hr.mono (by omega)) (by rfl) T.g_spoilt T.F_spoilt.kp T.b_spoilt .nil pass0 (pa_cons (xv 6) (pa_cons (xv 5) (pa_cons (xv 2) pa_nil)))) pa_nil)))
      (pss_one (ps_set (i := 5) sc_spoilt.nd rfl (.inl rfl) (pe_op op_addY (xv 5) (pe_call G_count (hr.mono (by omega)) (by rfl) T.g_count T.F_count.kp T.b_count .nil pass0 (pa_cons (xv 6) pa_nil)))))))
      (pss_one (ps_set (i := 3) sc_spoilt.nd rfl (.inl rfl) (pe_callTy (call_tupleK K) (by rfl) T.m_tuple (by decide +kernel) (pa_cons (xv 4) pa_nil)))))))
      pss_nil)
      (pss_cons (ps_for PassesOwn.never rfl (pi_listK K (xv 2)) (pg_tupK K 4 (pgs_cons (pg_name (i := 7) sc_spoilt.nd rfl (.inl rfl)) (pgs_cons (pg_name (i := 8) sc_spoilt.nd rfl (.inl rfl)) (pgs_cons (pg_name (i := 9) sc_spoilt.nd rfl (.inl rfl)) (pgs_cons (pg_name (i := 10) sc_spoilt.nd rfl (.inl rfl)) pgs_nil)))))
      (pss_one (xs_if (xt_cmp (op_eqLK K hr.u190) (xv 7) (xv 1) (nomark _))
      (pss_one (ps_ret (pe_call G_bad (hr.mono (by omega)) (by rfl) T.g_bad T.F_bad.kp T.b_bad .nil pass0 (pa_cons (xv 3) (pa_cons (xv 8) (pa_cons (xv 9) (pa_cons (xv 10) pa_nil)))))))
      pss_nil)))
      (pss_one (ps_ret (xv 3)))))), ?_⟩
      have fp := f.dep_pos
      have cp := f.cnt_pos
      refine ⟨fun σ H' => ∃ (y4 y5 y6 : Option V) (bt : Addr) (u : Str) (ws : List V) (r : List PyData) (G' : Hp), σ = [some v, some (.int (n : Nat)), some (.ref L), some (.ref bt), y4, y5, y6, none, none, none, none] ∧ Same G G' ∧ SqT K G' bt (.str u :: ws) ∧ DpAll K G' ws r ∧ headN u = r.length + 1 ∧ OkE (160 * f.cnt + 850 * hits ss (n + 1 : Nat) (n + f.cnt : Nat)) (f.dep + hits ss (n + 1 : Nat) (n + f.cnt : Nat)) (.tuple (.str u :: r)) ∧ Sep G' M H', ?_, fun σ H1 h => ?_⟩
      · rcases hf.nodeW with ⟨p, i, rfl, hp, rfl⟩ | ⟨p, x, rfl, hp, rfl⟩ | ⟨p, vs, rfl, hp, hk, u1, u2, kne, kl, kd⟩
        · have h1 := S.t hp
          have ed := (dat_e hn _ ok).mono (b' := 160 * (Gm.is i).cnt + 850 * hits ss (n + 1 : Nat) (n + (Gm.is i).cnt : Nat)) (dp' := (Gm.is i).dep + hits ss (n + 1 : Nat) (n + (Gm.is i).cnt : Nat)) (by omega) (by omega)
          exact ⟨_, _, .inr h1, rfl, fun e => absurd e (by decide +kernel), fun _ => ⟨ff, fun _ => ⟨_, _, _, p, "is", _, [.int i], G, rfl, Same.refl _, hp, .cons (.int _) .nil, (by decide +kernel : headN "is" = 2), ed, S⟩⟩⟩
        · have h1 := S.t hp
          have ed := (dat_e hn _ ok).mono (b' := 160 * (Gm.get x).cnt + 850 * hits ss (n + 1 : Nat) (n + (Gm.get x).cnt : Nat)) (dp' := (Gm.get x).dep + hits ss (n + 1 : Nat) (n + (Gm.get x).cnt : Nat)) (by omega) (by omega)
          exact ⟨_, _, .inr h1, rfl, fun _ => ⟨_, _, .inr h1, rfl, fun e => absurd e (by decide +kernel), fun _ => ⟨_, _, _, p, "get", _, [.str x], G, rfl, Same.refl _, hp, .cons (.str _) .nil, (by decide +kernel : headN "get" = 2), ed, S⟩⟩, fun e => absurd e (by decide +kernel)⟩
        · have h1 := S.t hp
          have at0 : atI (V.str f.word :: vs) 0 = some (.str f.word) := atI_nat (j := 0) rfl
          have ne : ∀ y : Str, f.word ≠ y → (!decide (f.word = y)) = true := fun y h => by simp [h]
          refine ⟨_, .str f.word, .inr h1, at0, fun _ => ⟨_, .str f.word, .inr h1, at0, fun _ => ?_, fun e => absurd ((ne "get" u2).symm.trans e) (by decide)⟩, fun e => absurd ((ne "is" u1).symm.trans e) (by decide)⟩
          refine ⟨_, .str f.word, .inr h1, at0, sz, fun O nO => ?_⟩
          have S1 := S.new (o := .lst [.str f.word]) nO
          refine ⟨1, rfl, p, _, rfl, S1.t hp, tailD_ok (K := K) vs _, fun t nt => ?_⟩
          rw [cutT1] at *
          have S2 := S1.newG (o := .tup vs) nt
          have s2' := S1.grow (o := .tup vs) nt
          have kvl := prd_len hk
          have fd := Gm.dep_kids kne
          have fc := Gm.cnt_kids kne
          refine ⟨t, rfl, ⟨vs, SqT.of (S2.st upd_same)⟩, for_tup (xs := vs) (fun i σ H' => ∃ (y6 : Option V) (G' : Hp) (ws : List V) (r : List PyData), σ = [some (.ref p), some (.int (n : Nat)), some (.ref L), some (.ref p), some (.ref O), some (.int (n + 1 + cntL (f.kids.take i) : Nat)), y6, none, none, none, none] ∧ Same (upd G t (.tup vs)) G' ∧ DpAll K G' ws r ∧ r.length = i ∧
              OkEs (160 * cntL (f.kids.take i) + 2 * i + 850 * hits ss (n + 1 : Nat) (n + 1 + cntL (f.kids.take i) : Nat)) (depL f.kids + hits ss (n + 1 : Nat) (n + 1 + cntL (f.kids.take i) : Nat)) r ∧ Sep G' ((O, .lst (.str f.word :: ws)) :: M) H')
            ⟨_, _, [], [], rfl, Same.refl _, .nil, rfl, OkEs.nil.mono (Nat.zero_le _) (Nat.le_refl _), S2⟩ (fun i σ H' _ h => ?_) (fun i x σ H' hx h => ?_) (fun σ H' h => ?_)⟩
          · obtain ⟨_, G', _, _, _, s', _, _, _, S'⟩ := h
            exact SqT.of (S'.st (s' _ _ upd_same))
          · obtain ⟨y6, G', ws, r, rfl, s', hws, rl, okr, S'⟩ := h
            obtain ⟨c, hc', hcv⟩ := prd_get hk hx
            have cm := List.mem_of_getElem? hc'
            have il : i < f.kids.length := (List.getElem?_eq_some_iff.mp hc').1
            have dc := kd c cm
            have ec : cntL (f.kids.take (i + 1)) = cntL (f.kids.take i) + c.cnt := by
              rw [take_snoc hc', cntL_app]
              simp only [cntL]
              omega
            have ecl : cntL (f.kids.take (i + 1)) ≤ cntL f.kids := by
              have := cntL_app (f.kids.take (i + 1)) (f.kids.drop (i + 1))
              rw [List.take_append_drop] at this
              omega
            have dcl : c.dep ≤ depL f.kids := by omega
            refine ⟨.inl ⟨rfl, _, SqL.of S'.hd⟩, G', _, x, c, ns, n + 1 + cntL (f.kids.take i), m, L, us, ss, rfl, S', (hcv.same' s2').same' s', Gm.kids_ok ok c cm, hn, by omega, by omega, s' _ _ (s2' _ _ hL), prd_imp (fun _ _ => SplAt.same (s2'.trans s')) pu, s2, fun y d G4 H4 s4 S4 hy okd => ?_⟩
            have wsl := dpa_len hws
            refine ⟨O, _, y, rfl, rfl, S4.hd, by rw [List.length_cons, sizeLine_eq]; omega, ?_⟩
            have S5 := S4.set (o' := .lst (V.str f.word :: ws ++ [y]))
            refine ⟨G4, _, x, c, rfl, S5, ((hcv.same' s2').same' s').same' s4, by omega, fun G6 H6 s6 S6 => ?_⟩
            have hh := hits_add ss (a := (n + 1 : Nat)) (b := (n + 1 + cntL (f.kids.take i) : Nat)) (c := (n + 1 + cntL (f.kids.take i) + c.cnt : Nat)) (by omega) (by omega)
            have e0 : n + 1 + cntL (f.kids.take (i + 1)) = n + 1 + cntL (f.kids.take i) + c.cnt := by omega
            refine ⟨some x, G6, ws ++ [y], r ++ [d], ?_, s'.trans (s4.trans s6), dpa_app (dpa_same (s4.trans s6) hws) (.cons (dp_same s6 hy) .nil), by rw [List.length_append, rl]; rfl, ?_, S6⟩
            · rw [e0]
              rfl
            · rw [e0, ec, hh]
              exact ((okr.mono (Nat.le_refl _) (by omega)).app (OkEs.one (okd.mono (Nat.le_refl _) (by omega)))).mono (by omega) (Nat.le_refl _)
          · obtain ⟨y6, G', ws, r, rfl, s', hws, rl, okr, S'⟩ := h
            rw [kvl, List.take_length] at *
            refine ⟨O, _, rfl, .inl ⟨SqL.of S'.hd, fun t7 nt7 => ?_⟩⟩
            obtain ⟨G7, s7, S7, k7⟩ := Sep.mk (o := .tup (.str f.word :: ws)) S' nt7
            have en : n + 1 + cntL f.kids = n + f.cnt := by omega
            rw [en] at okr
            exact ⟨_, _, _, t7, f.word, ws, r, G7, rfl, s2'.trans (s'.trans s7), SqT.of k7, dpa_same s7 hws, by rw [Gm.head_word kne]; omega, (OkEs.cons ((word_e f).mono (Nat.le_refl _) (Nat.zero_le _)) okr).tup.mono (by omega) (by omega), S7.drop⟩
      · obtain ⟨y4, y5, y6, bt, u, ws, r, G1, rfl, s1, hbt, hws, hu, okb, S1⟩ := h
        have hL1 := s1 _ _ hL
        have pu1 := prd_imp (fun _ _ => SplAt.same s1) pu
        have hh := hits_add ss (a := (n : Nat)) (b := (n + 1 : Nat)) (c := (n + f.cnt : Nat)) (by omega) (by omega)
        refine ⟨L, rfl, ⟨us, SqL.of (S1.st hL1)⟩, for_list (xs := us) (fun i σ H' => ∃ (y7 y8 y9 y10 : Option V), σ = [some v, some (.int (n : Nat)), some (.ref L), some (.ref bt), y4, y5, y6, y7, y8, y9, y10] ∧ H' = H1)
          ⟨_, _, _, _, rfl, rfl⟩ (fun i σ H' _ h => ?_) (fun i x σ H' hx h => ?_) (fun σ H' h => ?_)⟩
        · obtain ⟨_, _, _, _, _, rfl⟩ := h
          exact SqL.of (S1.st hL1)
        · obtain ⟨y7, y8, y9, y10, rfl, rfl⟩ := h
          obtain ⟨c, hc', t1, rfl, ht1, c0, c1, h0, h12, o0, o14, hz⟩ := prd_get pu1 hx
          refine ⟨t1, _, rfl, SqT.of (S1.st ht1), rfl, _, _, rfl, _, _, rfl, _, _, rfl, _, _, rfl, rfl, ?_⟩
          refine ⟨fun e => ?_, fun e => ⟨_, _, _, _, rfl, rfl⟩⟩
          have e : c.pl = (n : Nat) := of_decide_eq_true e
          have hp := hits_pos (List.mem_of_getElem? hc') (n := (n : Nat)) (m := (n + 1 : Nat)) (by omega) (by omega)
          refine ⟨G1, M, bt, u, ws, r, _, _, c.how, c.odd, c.told, rfl, S1, hbt, hws, hu, okb, h0, h12, o0, o14, hn.lt _ hz, fun y d G4 H4 s4 S4 hy okd => ?_⟩
          exact q y d G4 H4 (s1.trans s4) S4 hy (okd.mono (by omega) (by omega))
        · obtain ⟨y7, y8, y9, y10, rfl, rfl⟩ := h
          exact q _ _ G1 H' s1 S1 (.tup hbt (.cons (.str _) hws)) (okb.mono (by omega) (by omega))

end
end K02
set_option Elab.async false
set_option linter.all false
set_option maxRecDepth 100000
set_option maxHeartbeats 4000000
namespace K02
open PySem PySem.Spec PyProof.Rows L2 XL
section
variable {P : Program} {w : World} {K : PySem.W.Frag} {mg : Str → Option Value} {base : Heap}
/-! ### the law -/
theorem rep8 {z : Str} (h : Lt 1 8 z) : Lt 1 8 (cutS (repS z 8) none (some (8 : Int))) := by
  have l : Lt 8 64 (repS z 8) := ⟨by rw [repS_len]; have := h.lo; omega, by rw [repS_len]; have := h.hi; omega, fun c hc => h.ch c (repS_mem hc)⟩
  exact (l.to 8).wide (by decide) (by decide)
theorem due_gm {f : Gm} {ns : List Str} (ok : f.ok ns) (hn : NmL ns) (hd : f.dep ≤ 5) : due f.dat = none := by
  obtain ⟨h1, h2⟩ := dat_fb hn f ok
  unfold due
  rw [h1, h2]
  exact if_pos hd
theorem okd5 {f : Gm} {ns : List Str} (hn : NmL ns) (ok : f.ok ns) (hd : f.dep ≤ 5) : OkE 19360 5 f.dat := (dat_e hn f ok).mono (by have := cnt5 hd; omega) hd
theorem OkE.okd {b dp : Nat} {d : PyData} (h : OkE b dp d) (h1 : b ≤ 40000) (h2 : dp ≤ 64) : Okd d := h.mono h1 h2
theorem ok_sum2 {f g : PyData} (hf : OkE 19360 5 f) (hg : OkE 19360 5 g) : Okd (.tuple [.str "sum", f, g]) :=
  (OkEs.cons ((OkE.lit (b := 55) (by decide +kernel) (by decide +kernel)).mono (Nat.le_refl _) (by decide)) (.cons hf (.one hg))).tup.okd (by decide) (by decide)
theorem ok_lst2 {f g : PyData} (hf : OkE 19360 5 f) (hg : OkE 19360 5 g) : Okd (.list [f, g]) := (OkEs.cons hf (.one hg)).lst.okd (by decide) (by decide)
theorem ok_is {d : PyData} (h : OkE 760 1 d) : Okd (.tuple [.str "is", d]) := (OkEs.cons ((OkE.lit (b := 55) (by decide +kernel) (by decide +kernel)).mono (Nat.le_refl _) (by decide)) (.one h)).tup.okd (by decide) (by decide)
theorem ok_get {d : PyData} (h : OkE 760 1 d) : Okd (.tuple [.str "get", d]) := (OkEs.cons ((OkE.lit (b := 55) (by decide +kernel) (by decide +kernel)).mono (Nat.le_refl _) (by decide)) (.one h)).tup.okd (by decide) (by decide)
def spLaw (K : PySem.W.Frag) : Sp := fun vs H Q _ => ∃ (a : Addr) (ns : List Int), vs = [.ref a] ∧ SqL K H a (ns.map V.int) ∧ ns.length ≤ 63 ∧ ∀ H', Q (.bl true) H'
theorem ok_law (T : Top K mg w) {k : Nat} (G_bag : FnOk P w K mg base CX0 k T.a_bag T.d_bag ["_law_script"] (spBag K)) (G_pick : FnOk P w K mg base CX0 k T.a_pick T.d_pick ["_law_bag_here", "_law_many"] spPick) (G_choice : FnOk P w K mg base CX0 k T.a_choice T.d_choice ["_law_bag_here", "_law_things"] (spChoice K)) (G_new_name : FnOk P w K mg base CX0 k T.a_new_name T.d_new_name ["_law_bag_here", "_law_used"] spNew)
    (G_drawn_form : FnOk P w K mg base CX0 k T.a_drawn_form T.d_drawn_form ["_law_bag_here", "_law_readable"] (spDrF K)) (G_tall : FnOk P w K mg base CX0 k T.a_tall T.d_tall ["_law_bag_here", "_law_readable", "_law_levels_here"] (spForm K 5)) (G_deeper : FnOk P w K mg base CX0 k T.a_deeper T.d_deeper ["_law_bag_here", "_law_readable", "_law_parts", "_law_times"] (spDeep K)) (G_spoils : FnOk P w K mg base CX0 k T.a_spoils T.d_spoils ["_law_bag_here", "_law_used", "_law_parts"] (spSpoils K))
    (G_spoilt : FnOk P w K mg base CX0 k T.a_spoilt T.d_spoilt ["_law_parts", "_law_number_here", "_law_spoils_here"] (spSpoilt K 40)) (G_odd_value : FnOk P w K mg base CX0 k T.a_odd_value T.d_odd_value ["_law_odd", "_law_told"] (spOddV K)) (G_odd_name : FnOk P w K mg base CX0 k T.a_odd_name T.d_odd_name ["_law_odd", "_law_told"] (spOddV K))
    (G_judged : FnG P w K mg base CX0 k T.a_judged T.d_judged ["_law_parts"] (spJudged K)) (G_constant : FnG P w K mg base CX0 k T.a_constant T.d_constant ["_law_value"] (spCst K "is")) (G_named : FnG P w K mg base CX0 k T.a_named T.d_named ["_law_value"] (spCst K "get")) (G_added : FnG P w K mg base CX0 k T.a_added T.d_added ["_law_first", "_law_second", "_law_way"] (spAddL K)) :
    FnG P w K mg base CX0 (k + 3) T.a_law T.d_law ["_law_script"] (spLaw K) := by
  refine okG T.F_law sc_law (fun vs H Q E h => ?_) (fun cdv A outer s H vs Q E hr hg h => ?_)
  · obtain ⟨a, ns, rfl, _⟩ := h
    rfl
  · obtain ⟨a, nn, rfl, ha, hl, q⟩ := h
    refine ⟨_, (pss_cons (ps_set (i := 1) sc_law.nd rfl (.inl rfl) (pe_call G_bag (hr.mono (by omega)) (by rfl) T.g_bag T.F_bag.kp T.b_bag .nil pass0 (pa_cons (xv 0) pa_nil)))
      (pss_cons (ps_set (i := 2) sc_law.nd rfl (.inl rfl) (pe_lst pa_nil))
      (pss_cons (ps_for PassesOwn.never rfl (pi_range1 (by rfl) T.m_range (pa_cons (pe_op op_addY pe_int (pe_call G_pick (hr.mono (by omega)) (by rfl) T.g_pick T.F_pick.kp T.b_pick .nil pass0 (pa_cons (xv 1) (pa_cons pe_int pa_nil)))) pa_nil)) (pg_name (i := 3) sc_law.nd rfl (.inl rfl))
      (pss_one (ps_expr (pe_call G_new_name (hr.mono (by omega)) (by rfl) T.g_new_name T.F_new_name.kp T.b_new_name .nil pass0 (pa_cons (xv 1) (pa_cons (xv 2) pa_nil))))))
      (xss_cut (xs_if (xt_cmp (op_eqLK K hr.u190) (pe_call G_pick (hr.mono (by omega)) (by rfl) T.g_pick T.F_pick.kp T.b_pick .nil pass0 (pa_cons (xv 1) (pa_cons pe_int pa_nil))) pe_int (nomark _))
      (pss_one (ps_expr (pe_bmK K PySem.F.plainAttrs_list PySem.F.slot_list_append PySem.F.type_list_append mt_append (xv 2) (pa_cons (pe_slice sl_str (pe_op op_mulS (pe_ix (ix_k K) (xv 2) pe_int (fun _ _ => rfl)) pe_int) po_none (po_some pe_int)) pa_nil))))
      pss_nil)
      (pss_cons (ps_set (i := 4) sc_law.nd rfl (.inl rfl) (pe_call G_drawn_form (hr.mono (by omega)) (by rfl) T.g_drawn_form T.F_drawn_form.kp T.b_drawn_form .nil pass0 (pa_cons (xv 1) (pa_cons (xv 2) pa_nil))))
      (pss_cons (ps_for PassesOwn.never rfl (pi_range1 (by rfl) T.m_range (pa_cons pe_int pa_nil)) (pg_name (i := 3) sc_law.nd rfl (.inl rfl))
      (pss_cons (ps_set (i := 5) sc_law.nd rfl (.inl rfl) (pe_ix (ix_k K) (pe_lst (pa_cons pe_int (pa_cons pe_int (pa_cons pe_int (pa_cons pe_int (pa_cons pe_int (pa_cons pe_int (pa_cons pe_int pa_nil)))))))) (pe_call G_pick (hr.mono (by omega)) (by rfl) T.g_pick T.F_pick.kp T.b_pick .nil pass0 (pa_cons (xv 1) (pa_cons pe_int pa_nil))) (fun _ _ => rfl)))
      (pss_cons (ps_set (i := 6) sc_law.nd rfl (.inl rfl) (pe_call G_deeper (hr.mono (by omega)) (by rfl) T.g_deeper T.F_deeper.kp T.b_deeper .nil pass0 (pa_cons (xv 1) (pa_cons (xv 2) (pa_cons (pe_call G_drawn_form (hr.mono (by omega)) (by rfl) T.g_drawn_form T.F_drawn_form.kp T.b_drawn_form .nil pass0 (pa_cons (xv 1) (pa_cons (xv 2) pa_nil))) (pa_cons (xv 5) pa_nil))))))
      (pss_cons (ps_set (i := 7) sc_law.nd rfl (.inl rfl) (pe_call G_spoils (hr.mono (by omega)) (by rfl) T.g_spoils T.F_spoils.kp T.b_spoils .nil pass0 (pa_cons (xv 1) (pa_cons (xv 2) (pa_cons (xv 6) pa_nil)))))
      (pss_one (xs_if (PW.pt (xw_or (pt_not (xt_truK K (pe_callG G_judged (hr.mono (by omega)) hg (by rfl) T.g_judged T.F_judged.kp T.b_judged pass0 (pa_cons (xv 4) pa_nil)))) (xw_or (pt_not (xt_truK K (pe_callG G_judged (hr.mono (by omega)) hg (by rfl) T.g_judged T.F_judged.kp T.b_judged pass0 (pa_cons (pe_call G_spoilt (hr.mono (by omega)) (by rfl) T.g_spoilt T.F_spoilt.kp T.b_spoilt .nil pass0 (pa_cons (xv 6) (pa_cons pe_int (pa_cons (xv 7) pa_nil)))) pa_nil)))) (pw_or1 (pt_not (xt_truK K (pe_callG G_judged (hr.mono (by omega)) hg (by rfl) T.g_judged T.F_judged.kp T.b_judged pass0 (pa_cons (xv 4) pa_nil))))))))
      (pss_one (ps_ret pe_bl))
      pss_nil))))))
      (pss_cons (ps_set (i := 8) sc_law.nd rfl (.inl rfl) (pe_call G_choice (hr.mono (by omega)) (by rfl) T.g_choice T.F_choice.kp T.b_choice .nil pass0 (pa_cons (xv 1) (pa_cons (xv 2) pa_nil))))
      (pss_cons (ps_set (i := 9) sc_law.nd rfl (.inl rfl) (pe_call G_pick (hr.mono (by omega)) (by rfl) T.g_pick T.F_pick.kp T.b_pick .nil pass0 (pa_cons (xv 1) (pa_cons pe_int pa_nil))))
      (pss_cons (xs_if (PW.pt (xw_or (pt_not (xt_truK K (pe_callG G_constant (hr.mono (by omega)) hg (by rfl) T.g_constant T.F_constant.kp T.b_constant pass0 (pa_cons (pe_call G_odd_value (hr.mono (by omega)) (by rfl) T.g_odd_value T.F_odd_value.kp T.b_odd_value .nil pass0 (pa_cons (xv 9) (pa_cons (xv 8) pa_nil))) pa_nil)))) (xw_or (pt_not (xt_truK K (pe_callG G_constant (hr.mono (by omega)) hg (by rfl) T.g_constant T.F_constant.kp T.b_constant pass0 (pa_cons (pe_op op_modY (pe_callTy cr_int (by rfl) T.m_int (by decide +kernel) (pa_cons (xv 9) pa_nil)) pe_int) pa_nil)))) (pw_or1 (pt_not (xt_truK K (pe_callG G_constant (hr.mono (by omega)) hg (by rfl) T.g_constant T.F_constant.kp T.b_constant pass0 (pa_cons (xv 9) pa_nil))))))))
      (pss_one (ps_ret pe_bl))
      pss_nil)
      (pss_cons (xs_if (PW.pt (xw_or (pt_not (xt_truK K (pe_callG G_named (hr.mono (by omega)) hg (by rfl) T.g_named T.F_named.kp T.b_named pass0 (pa_cons (pe_call G_odd_name (hr.mono (by omega)) (by rfl) T.g_odd_name T.F_odd_name.kp T.b_odd_name .nil pass0 (pa_cons (xv 9) (pa_cons (xv 8) pa_nil))) pa_nil)))) (xw_or (pt_not (xt_truK K (pe_callG G_named (hr.mono (by omega)) hg (by rfl) T.g_named T.F_named.kp T.b_named pass0 (pa_cons (xv 8) pa_nil)))) (pw_or1 (pt_not (xt_truK K (pe_callG G_named (hr.mono (by omega)) hg (by rfl) T.g_named T.F_named.kp T.b_named pass0 (pa_cons (pe_slice sl_str (pe_op op_mulS (xv 8) pe_int) po_none (po_some pe_int)) pa_nil))))))))
      (pss_one (ps_ret pe_bl))
      pss_nil)
      (pss_cons (ps_set (i := 10) sc_law.nd rfl (.inl rfl) (pe_call G_tall (hr.mono (by omega)) (by rfl) T.g_tall T.F_tall.kp T.b_tall .nil pass0 (pa_cons (xv 1) (pa_cons (xv 2) (pa_cons (pe_op op_addY pe_int (pe_call G_pick (hr.mono (by omega)) (by rfl) T.g_pick T.F_pick.kp T.b_pick .nil pass0 (pa_cons (xv 1) (pa_cons pe_int pa_nil)))) pa_nil)))))
      (pss_cons (ps_set (i := 11) sc_law.nd rfl (.inl rfl) (pe_call G_drawn_form (hr.mono (by omega)) (by rfl) T.g_drawn_form T.F_drawn_form.kp T.b_drawn_form .nil pass0 (pa_cons (xv 1) (pa_cons (xv 2) pa_nil))))
      (pss_cons (ps_set (i := 12) sc_law.nd rfl (.inl rfl) (pe_call G_pick (hr.mono (by omega)) (by rfl) T.g_pick T.F_pick.kp T.b_pick .nil pass0 (pa_cons (xv 1) (pa_cons pe_int pa_nil))))
      (pss_one (ps_ret (xe_and (pe_callG G_added (hr.mono (by omega)) hg (by rfl) T.g_added T.F_added.kp T.b_added pass0 (pa_cons (xv 10) (pa_cons (xv 11) (pa_cons (xv 12) pa_nil)))) (xe_and (pe_callG G_added (hr.mono (by omega)) hg (by rfl) T.g_added T.F_added.kp T.b_added pass0 (pa_cons (xv 11) (pa_cons (xv 10) (pa_cons (pe_op op_subY pe_int (xv 12)) pa_nil)))) (pe_one (pe_callG G_added (hr.mono (by omega)) hg (by rfl) T.g_added T.F_added.kp T.b_added pass0 (pa_cons (pe_tup (pa_cons pe_str (pa_cons (xv 8) pa_nil))) (pa_cons (xv 4) (pa_cons (xv 12) pa_nil)))))))))))))))))))))), ?_⟩
    refine ⟨H, [], a, nn, rfl, sep0, ha, hl, fun b o1 G1 H1 _ B1 S1 => ?_⟩
    refine ⟨sz, fun l nl => ?_⟩
    have S2 := S1.new (o := .lst []) nl
    refine ⟨G1, _, b, o1, 3, rfl, S2.sw, B1, by decide, by decide, fun r o3 H3 r0 r3 B3 S3 => ?_⟩
    refine ⟨1 + r, rfl, by omega, by omega, for_range (lo := 0) (n := (1 + r).toNat) (fun i σ H' => ∃ (y3 : Option V) (o' : HO) (zs : List Str), σ = [some (.ref a), some (.ref b), some (.ref l), y3, none, none, none, none, none, none, none, none, none] ∧ zs.length = i ∧ (∀ z ∈ zs, Lt 1 8 z) ∧ Bag G1 o' ∧ Sep G1 ((b, o') :: (l, .lst (zs.map V.str)) :: []) H')
      ⟨_, o3, [], rfl, rfl, (fun _ h => nomatch h), B3, S3⟩ (fun i σ H' hi h => ?_) (fun σ H' h => ?_)⟩
    · obtain ⟨y3, o4, zs, rfl, zl, hz, B4, S4⟩ := h
      have hi : i < (1 + r).toNat := hi
      refine ⟨G1, [], b, o4, l, zs, rfl, S4, B4, hz, by omega, fun z o5 H5 hz5 _ _ _ B5 S5 => ?_⟩
      refine ⟨_, o5, zs ++ [z], rfl, by simp [zl], fun y hy => ?_, B5, S5⟩
      rcases List.mem_append.mp hy with q | q
      · exact hz y q
      · rw [List.mem_singleton.mp q]
        exact hz5
    · obtain ⟨y3, o4, ns0, rfl, zl, hz, B4, S4⟩ := h
      have n10 : 0 < ns0.length := by omega
      have n30 : ns0.length ≤ 3 := by omega
      refine ⟨fun σ H' => ∃ (o' : HO) (zs : List Str), σ = [some (.ref a), some (.ref b), some (.ref l), y3, none, none, none, none, none, none, none, none, none] ∧ 0 < zs.length ∧ zs.length ≤ 4 ∧ (∀ z ∈ zs, Lt 1 8 z) ∧ Bag G1 o' ∧ Sep G1 ((b, o') :: (l, .lst (zs.map V.str)) :: []) H', ?_, fun σ H5 h => ?_⟩
      · refine ⟨G1, _, b, o4, 2, rfl, S4, B4, by decide, by decide, fun r5 o5 H5 _ _ B5 S5 => ⟨fun _ => ?_, fun _ => ⟨o5, ns0, rfl, n10, by omega, hz, B5, S5⟩⟩⟩
        obtain ⟨z0, zr, rfl⟩ : ∃ z0 zr, ns0 = z0 :: zr := by
          cases ns0 with
          | nil => exact absurd n10 (by simp)
          | cons z0 zr => exact ⟨z0, zr, rfl⟩
        have hz0 := hz z0 List.mem_cons_self
        have h81 := hz0.lo
        have h88 := hz0.hi
        refine ⟨.inl ⟨rfl, _, SqL.of S5.sw.hd⟩, _, _, .inl (SqL.of S5.sw.hd), atI_nat (j := 0) rfl, by decide, by decide, h81, by omega, _, rfl, repS z0 8, rfl, by rw [repS_len, sizeLine_eq]; omega, ?_⟩
        refine ⟨l, _, _, rfl, rfl, S5.sw.hd, by rw [List.length_map, sizeLine_eq]; omega, ?_⟩
        refine ⟨o5, (z0 :: zr) ++ [cutS (repS z0 8) none (some (8 : Int))], rfl, by simp, by rw [List.length_append]; simp only [List.length_singleton]; omega, fun z h => ?_, B5, ?_⟩
        · rcases List.mem_append.mp h with h | h
          · exact hz z h
          · rw [List.mem_singleton.mp h]
            exact rep8 hz0
        · rw [List.map_append]
          exact S5.sw.set.sw
      · obtain ⟨o5, ns, rfl, n1, n4, hz, B5, S5⟩ := h
        have hn : NmL ns := ⟨hz⟩
        obtain ⟨G6, s6, S6, hl6⟩ := Sep.keep S5.sw
        have B6 := B5.same s6
        refine ⟨G6, [], b, o5, l, ns, rfl, S6, B6, hl6, n1, by omega, fun v1 f1 o7 G7 H7 s7 hf1 ok1 d1 B7 S7 => ?_⟩
        have hl7 := s7 _ _ hl6
        have e1 := okd5 hn ok1 d1
        have e1d := e1.okd (by decide) (by decide)
        refine ⟨3, rfl, by decide, by decide, for_range (lo := 0) (n := (3 : Int).toNat) (fun i σ H' => ∃ (y3' y5 y6 y7 : Option V) (G' : Hp) (o' : HO), σ = [some (.ref a), some (.ref b), some (.ref l), y3', some v1, y5, y6, y7, none, none, none, none, none] ∧ Same G7 G' ∧ Bag G' o' ∧ Sep G' ((b, o') :: []) H')
          ⟨_, _, _, _, G7, o7, rfl, Same.refl _, B7, S7⟩ (fun i σ H' hi h => ?_) (fun σ H' h => ?_)⟩
        · obtain ⟨y3', y5, y6, y7, G8, o8, rfl, s8, B8, S8⟩ := h
          refine ⟨sz, fun t9 n9 => ?_⟩
          obtain ⟨G9, s9, S9, k9⟩ := Sep.mk (o := .lst [V.int 0, .int 0, .int 0, .int 1, .int 2, .int 3, .int 30]) S8 n9
          refine ⟨G9, [], b, o8, 7, rfl, S9, B8.same s9, by decide, by decide, fun r10 o10 H10 r100 r101 B10 S10 => ?_⟩
          obtain ⟨m, hm, m30⟩ : ∃ m : Nat, atI [V.int 0, .int 0, .int 0, .int 1, .int 2, .int 3, .int 30] r10 = some (.int (m : Nat)) ∧ m ≤ 30 := by
            obtain rfl | rfl | rfl | rfl | rfl | rfl | rfl : r10 = 0 ∨ r10 = 1 ∨ r10 = 2 ∨ r10 = 3 ∨ r10 = 4 ∨ r10 = 5 ∨ r10 = 6 := by omega
            · exact ⟨0, rfl, by decide⟩
            · exact ⟨0, rfl, by decide⟩
            · exact ⟨0, rfl, by decide⟩
            · exact ⟨1, rfl, by decide⟩
            · exact ⟨2, rfl, by decide⟩
            · exact ⟨3, rfl, by decide⟩
            · exact ⟨30, rfl, by decide⟩
          refine ⟨_, _, .inl (SqL.of (S10.st k9)), hm, ?_⟩
          have s89 := s8.trans s9
          refine ⟨G9, [], b, o10, l, ns, rfl, S10, B10, s89 _ _ hl7, n1, by omega, fun v11 f11 o11 G11 H11 s11 hf11 ok11 d11 B11 S11 => ?_⟩
          have s711 := s89.trans s11
          refine ⟨G11, [], b, o11, l, ns, v11, f11, m, rfl, S11, B11, s711 _ _ hl7, n1, by omega, hf11, ok11, m30, fun v12 f12 o12 G12 H12 s12 hf12 ok12 d12 c12 B12 S12 => ?_⟩
          have c11 := cnt5 d11
          have s712 := s711.trans s12
          refine ⟨G12, [], b, o12, l, ns, v12, f12, rfl, S12, B12, s712 _ _ hl7, n1, by omega, hf12, by omega, by omega, fun L us ss o13 G13 H13 s13 hL pu ss2 B13 S13 => ?_⟩
          have s713 := s712.trans s13
          refine ⟨G13, _, v1, _, rfl, S13, dp_same s713 (gm_dp hf1), e1d, fun G14 H14 s14 S14 => ⟨ff, fun _ => ?_⟩⟩
          refine ⟨G14, _, v12, f12, ns, 0, _, L, us, ss, rfl, S14, (hf12.same' s13).same' s14, ok12, hn, by omega, by omega, s14 _ _ hL, prd_imp (fun _ _ => SplAt.same s14) pu, ss2, fun u15 d15 G15 H15 s15 S15 hu15 okd15 => ?_⟩
          have hh := hits_le ss ((0 : Nat) : Int) ((0 + f12.cnt : Nat) : Int)
          refine ⟨G15, _, u15, d15, rfl, S15, hu15, okd15.okd (by omega) (by omega), fun G16 H16 s16 S16 => ⟨ff, fun _ => ?_⟩⟩
          have s716 := s713.trans (s14.trans (s15.trans s16))
          refine ⟨G16, _, v1, _, rfl, S16, dp_same s716 (gm_dp hf1), e1d, fun G17 H17 s17 S17 => ⟨ff, fun _ => ?_⟩⟩
          exact ⟨_, _, _, _, G17, o13, rfl, s716.trans s17, B13.same (s14.trans (s15.trans (s16.trans s17))), S17⟩
        · obtain ⟨y3', y5, y6, y7, G8, o8, rfl, s8, B8, S8⟩ := h
          refine ⟨G8, [], b, o8, l, ns.map V.str, rfl, S8, B8, SqL.of (s8 _ _ hl7), by rw [List.length_map]; omega, by rw [List.length_map]; omega, fun v9 o9 H9 hv9 B9 S9 => ?_⟩
          obtain ⟨z, hz1, rfl⟩ := List.mem_map.mp hv9
          have hzl := hz z hz1
          have z1 := hzl.lo
          have z8 := hzl.hi
          refine ⟨G8, [], b, o9, 14, rfl, S9, B9, by decide, by decide, fun od o10 H10 od0 od1 B10 S10 => ?_⟩
          have nm : ∀ {i : Int}, -40 < i → i < 40 → OkE 760 1 (.int i) := fun h1 h2 => (OkE.num h1 h2).mono (by decide) (by decide)
          have st : ∀ {x : Str}, Lt 1 8 x → OkE 760 1 (.str x) := fun h => ((lt_low h).ok (b := 760) (by decide)).mono (Nat.le_refl _) (by decide)
          -- constant
          refine ⟨G8, _, od, z, rfl, S10, od0, od1, hzl, fun v11 d11 G11 H11 s11 S11 hv11 ok11 => ?_⟩
          refine ⟨G11, _, v11, d11, rfl, S11, hv11, ok_is ok11, fun G12 H12 s12 S12 => ⟨ff, fun _ => ?_⟩⟩
          refine ⟨by decide, fun r13 _ r130 r131 => ?_⟩
          refine ⟨G12, _, .int r13, .int r13, rfl, S12, .int _, ok_is (nm (by omega) (by omega)), fun G14 H14 s14 S14 => ⟨ff, fun _ => ?_⟩⟩
          refine ⟨G14, _, .int od, .int od, rfl, S14, .int _, ok_is (nm (by omega) (by omega)), fun G15 H15 s15 S15 => ⟨ff, fun _ => ?_⟩⟩
          -- named
          refine ⟨G15, _, od, z, rfl, S15, od0, od1, hzl, fun v16 d16 G16 H16 s16 S16 hv16 ok16 => ?_⟩
          refine ⟨G16, _, v16, d16, rfl, S16, hv16, ok_get ok16, fun G17 H17 s17 S17 => ⟨ff, fun _ => ?_⟩⟩
          refine ⟨G17, _, .str z, .str z, rfl, S17, .str _, ok_get (st hzl), fun G18 H18 s18 S18 => ⟨ff, fun _ => ?_⟩⟩
          refine ⟨by decide, by decide, z1, by omega, _, rfl, repS z 8, rfl, by rw [repS_len, sizeLine_eq]; omega, ?_⟩
          refine ⟨G18, _, _, _, rfl, S18, .str _, ok_get (st (rep8 hzl)), fun G19 H19 s19 S19 => ⟨ff, fun _ => ?_⟩⟩
          have s819 := s11.trans (s12.trans (s14.trans (s15.trans (s16.trans (s17.trans (s18.trans s19))))))
          have s719 := s8.trans s819
          -- sums
          refine ⟨G19, [], b, o10, 2, rfl, S19, B10.same s819, by decide, by decide, fun r20 o20 H20 r200 r201 B20 S20 => ?_⟩
          refine ⟨G19, [], b, o20, l, ns, 4 + r20, rfl, S20, B20, s719 _ _ hl7, n1, by omega, by omega, by omega, fun v21 f21 o21 G21 H21 s21 hf21 ok21 d21 B21 S21 => ?_⟩
          have d21 : f21.dep ≤ 5 := by omega
          have s721 := s719.trans s21
          refine ⟨G21, [], b, o21, l, ns, rfl, S21, B21, s721 _ _ hl7, n1, by omega, fun v22 f22 o22 G22 H22 s22 hf22 ok22 d22 B22 S22 => ?_⟩
          have s722 := s721.trans s22
          refine ⟨G22, [], b, o22, 2, rfl, S22, B22, by decide, by decide, fun wy o23 H23 wy0 wy1 B23 S23 => ?_⟩
          have e21 := okd5 hn ok21 d21
          have e22 := okd5 hn ok22 d22
          have h21 := gm_dp (hf21.same' s22)
          have h22 := gm_dp hf22
          refine ⟨G22, _, v21, v22, _, _, wy, rfl, S23, h21, h22, due_gm ok21 hn d21, due_gm ok22 hn d22, e21.okd (by decide) (by decide), e22.okd (by decide) (by decide), ok_sum2 e21 e22, ok_lst2 e21 e22, fun G24 H24 s24 S24 => ⟨fun _ => ?_, fun e => absurd e (by simp)⟩⟩
          refine ⟨G24, _, v22, v21, _, _, 1 - wy, rfl, S24, dp_same s24 h22, dp_same s24 h21, due_gm ok22 hn d22, due_gm ok21 hn d21, e22.okd (by decide) (by decide), e21.okd (by decide) (by decide), ok_sum2 e22 e21, ok_lst2 e22 e21, fun G25 H25 s25 S25 => ⟨fun _ => ?_, fun e => absurd e (by simp)⟩⟩
          refine ⟨sz, fun t26 n26 => ?_⟩
          obtain ⟨G26, s26, S26, k26⟩ := Sep.mk (o := .tup [.str "get", .str z]) S25 n26
          have okg : (Gm.get z).ok ns := hz1
          have dg : (Gm.get z).dep ≤ 5 := by simp [Gm.dep]
          have eg := okd5 hn okg dg
          have hg26 : Dp K G26 (.ref t26) (Gm.get z).dat := gm_dp (.get (SqT.of k26))
          have s726 := s722.trans (s24.trans (s25.trans s26))
          exact ⟨G26, _, .ref t26, v1, _, _, wy, rfl, S26, hg26, dp_same s726 (gm_dp hf1), due_gm okg hn dg, due_gm ok1 hn d1, eg.okd (by decide) (by decide), e1d, ok_sum2 eg e1, ok_lst2 eg e1, fun G27 H27 s27 S27 => q H27⟩

end
end K02
set_option Elab.async false
set_option linter.all false
set_option maxRecDepth 100000
set_option maxHeartbeats 4000000
namespace K02
open PySem PySem.Spec PyProof.Rows L2 XL
theorem law_end {l : PySem.W.OpenLaw} {w : World} {K : PySem.W.Frag} {h : Heap} {mg : Str → Option Value} {fa f : Addr} {file : Str} (X : K.In h) (G : h.Ns mainGlobals mg) (hfa : mg "law" = some (.ref fa))
    (t : ∃ T : Top K mg w, T.a_law = f ∧ T.x_file = file ∧ ∀ (s : Shared) (v : Value), BindsTo s T.d_law ⟨[v], []⟩ [("_law_script", v)]) (pf0 : PySem.XExc.PF l.prog file) :
    ∃ fd : FuncData, (∀ (s : Shared) (v : Value), BindsTo s fd ⟨[v], []⟩ [("_law_script", v)]) ∧ ∀ base : Heap, K.In base → base.Ns mainGlobals mg → FnG l.prog w K mg base CX0 84 fa fd ["_law_script"] (spLaw K) := by
  obtain ⟨T, _, ef, hb⟩ := t
  have pf : PySem.XExc.PF l.prog T.x_file := by rw [ef]; exact pf0
  have e := hfa.symm.trans T.g_law
  cases e
  refine ⟨T.d_law, hb, fun base _ _ => ?_⟩
  have Gp : ∀ k, FnOk l.prog w K mg base CX0 (k + 2) T.a_pick T.d_pick _ spPick := fun k => ok_pick T (k := k) (ok_mixed T)
  have Gch : ∀ k, FnOk l.prog w K mg base CX0 (k + 3) T.a_choice T.d_choice _ (spChoice K) := fun k => ok_choice T (k := k + 2) (Gp k)
  have Gfo : ∀ d, FnOk l.prog w K mg base CX0 (12 + 1 + d) T.a_form T.d_form _ (spForm K d) := fun d => ok_form T (k := 12) (Gp 10) (Gch 9) d
  have Gta : FnOk l.prog w K mg base CX0 19 T.a_tall T.d_tall _ (spForm K 5) := ok_tall T (k := 12) (Gp 10) Gfo 5
  have Gdf : FnOk l.prog w K mg base CX0 20 T.a_drawn_form T.d_drawn_form _ (spDrF K) := ok_drawn_form T (k := 19) (Gp 17) ((Gfo 5).mono (by decide)) Gta
  have Gde : FnOk l.prog w K mg base CX0 20 T.a_deeper T.d_deeper _ (spDeep K) := ok_deeper T (k := 19) (Gp 17) ((Gfo 1).mono (by decide))
  have Gco : FnOk l.prog w K mg base CX0 41 T.a_count T.d_count _ (spCnt K 40) := ok_count T 40
  have Gsp : FnOk l.prog w K mg base CX0 42 T.a_spoils T.d_spoils _ (spSpoils K) := ok_spoils T (k := 41) (Gp 39) (Gch 38) Gco
  have Gov : ∀ k, FnOk l.prog w K mg base CX0 (k + 1) T.a_odd_value T.d_odd_value _ (spOddV K) := fun k => ok_odd_value T
  have Gon : ∀ k, FnOk l.prog w K mg base CX0 (k + 1) T.a_odd_name T.d_odd_name _ (spOddV K) := fun k => ok_odd_name T
  have Gba : FnOk l.prog w K mg base CX0 41 T.a_bad T.d_bad _ (spBad K) := ok_bad T (k := 40) (Gov 39) (Gon 39)
  have Gst : FnOk l.prog w K mg base CX0 81 T.a_spoilt T.d_spoilt _ (spSpoilt K 40) := ok_spoilt T (k := 0) Gba Gco 40 (Nat.le_refl _)
  have Gfw : FnOk l.prog w K mg base CX0 66 T.a_first_wrong T.d_first_wrong _ (spFirst K 65) := ok_first_wrong T (k := 0) (ok_numberL T) (ok_is_nameL T) 65
  have Glv : FnOk l.prog w K mg base CX0 66 T.a_levels T.d_levels _ (spLevD K 65) := ok_levelsD T (k := 0) 65
  have Gwr : FnOk l.prog w K mg base CX0 78 T.a_wrong T.d_wrong _ (spWrong K) := (ok_wrong T (k := 66) Gfw Glv).mono (by decide)
  have Gck : ∀ k, FnOk l.prog w K mg base (L2.CX l.prog w) (k + 4) T.a_check_form T.d_check_form _ (spCheckG K T.C_BadForm) := fun k => ok_check_formG T pf (k := k + 2) (ok_is_partG T (k := k + 1) (ok_is_numberG T) (ok_is_nameG T))
  have Gin : ∀ k, FnOk l.prog w K mg base (L2.CX l.prog w) (k + 5) T.a_Form_init T.d_Form_init _ (spFInitD K T.C_Form T.C_BadForm) := fun k => ok_Form_initD T pf (k := k + 3) (Gck k)
  have Gad : FnOk l.prog w K mg base (L2.CX l.prog w) 78 T.a_Form_add T.d_Form_add _ (spAddD K T.C_Form T.C_BadForm) := ok_Form_addD T (k := 76) (Gin 71) (ok_Form_parts T)
  have Gsu : FnR l.prog w K mg base (L2.CX l.prog w) 78 T.a_Form_summed (spS 2 (spSumD K T.C_Form T.C_BadForm)) := ok_Form_summedD T (k := 76) (Gin 71) (ok_Form_parts T)
  have Gcs : FnOk l.prog w K mg base (L2.CX l.prog w) 78 T.a_Form_constant T.d_Form_constant _ (spMadeD K T.C_Form T.C_BadForm "is") := ok_Form_constantD T (k := 76) (Gin 71)
  have Gnm : FnOk l.prog w K mg base (L2.CX l.prog w) 78 T.a_Form_named T.d_Form_named _ (spMadeD K T.C_Form T.C_BadForm "get") := ok_Form_namedD T (k := 76) (Gin 71)
  have Hde : FnE l.prog w K mg base 78 T.a_due_error T.d_due_error _ (spDueErr K T.C_BadForm) := ok_due_error T pf (k := 77)
  have Gju : FnG l.prog w K mg base CX0 81 T.a_judged T.d_judged _ (spJudged K) := ok_judged T pf (k := 78) Gwr (Gin 73) (ok_Form_parts T) Hde
  have Gc : FnG l.prog w K mg base CX0 81 T.a_constant T.d_constant _ (spCst K "is") := ok_constant T pf (k := 78) Gwr Gcs (ok_Form_parts T) Hde
  have Gn : FnG l.prog w K mg base CX0 81 T.a_named T.d_named _ (spCst K "get") := ok_named T pf (k := 78) Gwr Gnm (ok_Form_parts T) Hde
  have Ga : FnG l.prog w K mg base CX0 81 T.a_added T.d_added _ (spAddL K) := ok_added T pf (k := 78) Gwr (Gin 73) Gad Gsu (ok_Form_parts T) (ok_Form_partsQ T) Hde
  exact ok_law T (k := 81) (ok_bag T) (Gp 79) (Gch 78) (ok_new_name T (k := 80) (Gp 78)) (Gdf.mono (by decide)) (Gta.mono (by decide)) (Gde.mono (by decide)) (Gsp.mono (by decide)) Gst (Gov 80) (Gon 80) Gju Gc Gn Ga
end K02
set_option Elab.async false
set_option linter.all false
set_option maxRecDepth 100000
set_option maxHeartbeats 4000000
namespace K02
open PySem PySem.Spec PyProof.Rows L2 XL
theorem top_mk {K : PySem.W.Frag} {W : World} {h : Heap} {mg : Str → Option Value} (X : K.In h) (G : h.Ns mainGlobals mg)
    {mc0 : Value}
    {C0 : Addr}
    (ca0 : PySem.W.nsIn K mainGlobals "Form" = some (some (.ref C0)))
    (cr0 : PySem.W.typeIn K (.ref C0) = some mc0)
    {f0 : Addr} {od0 an0 : Option Addr} {sl0 : Array (Option Value)} {oc0 kV0 dc0 pm0 cd0 ct0 : Value}
    (a0 : PySem.W.nsIn K mainGlobals "is_name" = some (some (.ref f0)))
    (l0 : K.lookup f0 = some ⟨oc0, od0, .func (PySem.W.fnOf "is_name" "is_name" (defArgs s_is_name) (defBody s_is_name) (defScope s_is_name) .none kV0 dc0 pm0 an0 cd0 ct0), sl0⟩)
    (c0 : PySem.W.codeIn K cd0 "is_name" = true)
    (k0 : PySem.W.keepIn K (.ref f0) = true)
    {f1 : Addr} {od1 an1 : Option Addr} {sl1 : Array (Option Value)} {oc1 kV1 dc1 pm1 cd1 ct1 : Value}
    (a1 : PySem.W.nsIn K mainGlobals "is_number" = some (some (.ref f1)))
    (l1 : K.lookup f1 = some ⟨oc1, od1, .func (PySem.W.fnOf "is_number" "is_number" (defArgs s_is_number) (defBody s_is_number) (defScope s_is_number) .none kV1 dc1 pm1 an1 cd1 ct1), sl1⟩)
    (c1 : PySem.W.codeIn K cd1 "is_number" = true)
    (k1 : PySem.W.keepIn K (.ref f1) = true)
    {f2 : Addr} {od2 an2 : Option Addr} {sl2 : Array (Option Value)} {oc2 kV2 dc2 pm2 cd2 ct2 : Value}
    (a2 : PySem.W.nsIn K mainGlobals "is_part" = some (some (.ref f2)))
    (l2 : K.lookup f2 = some ⟨oc2, od2, .func (PySem.W.fnOf "is_part" "is_part" (defArgs s_is_part) (defBody s_is_part) (defScope s_is_part) .none kV2 dc2 pm2 an2 cd2 ct2), sl2⟩)
    (c2 : PySem.W.codeIn K cd2 "is_part" = true)
    (k2 : PySem.W.keepIn K (.ref f2) = true)
    {f3 : Addr} {od3 an3 : Option Addr} {sl3 : Array (Option Value)} {oc3 kV3 dc3 pm3 cd3 ct3 : Value}
    (a3 : PySem.W.nsIn K mainGlobals "check_form" = some (some (.ref f3)))
    (l3 : K.lookup f3 = some ⟨oc3, od3, .func (PySem.W.fnOf "check_form" "check_form" (defArgs s_check_form) (defBody s_check_form) (defScope s_check_form) .none kV3 dc3 pm3 an3 cd3 ct3), sl3⟩)
    (c3 : PySem.W.codeIn K cd3 "check_form" = true)
    (k3 : PySem.W.keepIn K (.ref f3) = true)
    {f4 : Addr} {od4 an4 : Option Addr} {sl4 : Array (Option Value)} {oc4 kV4 dc4 pm4 cd4 ct4 : Value}
    (a4 : PySem.W.nsIn K mainGlobals "value_of" = some (some (.ref f4)))
    (l4 : K.lookup f4 = some ⟨oc4, od4, .func (PySem.W.fnOf "value_of" "value_of" (defArgs s_value_of) (defBody s_value_of) (defScope s_value_of) .none kV4 dc4 pm4 an4 cd4 ct4), sl4⟩)
    (c4 : PySem.W.codeIn K cd4 "value_of" = true)
    (k4 : PySem.W.keepIn K (.ref f4) = true)
    {f5 : Addr} {od5 an5 : Option Addr} {sl5 : Array (Option Value)} {oc5 kV5 dc5 pm5 cd5 ct5 : Value}
    (a5 : PySem.W.nsIn K mainGlobals "names_of" = some (some (.ref f5)))
    (l5 : K.lookup f5 = some ⟨oc5, od5, .func (PySem.W.fnOf "names_of" "names_of" (defArgs s_names_of) (defBody s_names_of) (defScope s_names_of) .none kV5 dc5 pm5 an5 cd5 ct5), sl5⟩)
    (c5 : PySem.W.codeIn K cd5 "names_of" = true)
    (k5 : PySem.W.keepIn K (.ref f5) = true)
    {f6 : Addr} {od6 an6 : Option Addr} {sl6 : Array (Option Value)} {oc6 kV6 dc6 pm6 cd6 ct6 : Value}
    (a6 : PySem.W.nsIn K mainGlobals "write_form" = some (some (.ref f6)))
    (l6 : K.lookup f6 = some ⟨oc6, od6, .func (PySem.W.fnOf "write_form" "write_form" (defArgs s_write_form) (defBody s_write_form) (defScope s_write_form) .none kV6 dc6 pm6 an6 cd6 ct6), sl6⟩)
    (c6 : PySem.W.codeIn K cd6 "write_form" = true)
    (k6 : PySem.W.keepIn K (.ref f6) = true)
    {f7 : Addr} {od7 an7 : Option Addr} {sl7 : Array (Option Value)} {oc7 kV7 dc7 pm7 cd7 ct7 : Value}
    (a7 : PySem.W.findIn K (.ref C0) "__init__" = some (some (.ref f7)))
    (i7 : PySem.W.isFn K (.ref f7) = true)
    (l7 : K.lookup f7 = some ⟨oc7, od7, .func (PySem.W.fnOf "__init__" "Form.__init__" (defArgs s_Form_init) (defBody s_Form_init) (defScope s_Form_init) .none kV7 dc7 pm7 an7 cd7 ct7), sl7⟩)
    (c7 : PySem.W.codeIn K cd7 "Form.__init__" = true)
    (k7 : PySem.W.keepIn K (.ref f7) = true)
    {f8 : Addr} {od8 an8 : Option Addr} {sl8 : Array (Option Value)} {oc8 kV8 dc8 pm8 cd8 ct8 : Value}
    {p8 : Addr} {pr8 : List Value}
    (a8 : PySem.W.findIn K (.ref C0) "parts" = some (some (.ref p8)))
    (pg8 : PySem.W.specialIn K (.ref p8) "__get__" = some (some (.builtin "property.__get__")))
    (pt8 : PySem.W.takesIn K (.ref p8) = some true)
    (pc8 : PySem.W.recIn K p8 "property" = some (.ref f8 :: pr8))
    (l8 : K.lookup f8 = some ⟨oc8, od8, .func (PySem.W.fnOf "parts" "Form.parts" (defArgs s_Form_parts) (defBody s_Form_parts) (defScope s_Form_parts) .none kV8 dc8 pm8 an8 cd8 ct8), sl8⟩)
    (c8 : PySem.W.codeIn K cd8 "Form.parts" = true)
    (k8 : PySem.W.keepIn K (.ref f8) = true)
    {f9 : Addr} {od9 an9 : Option Addr} {sl9 : Array (Option Value)} {oc9 kV9 dc9 pm9 cd9 ct9 : Value}
    (a9 : PySem.W.findIn K (.ref C0) "__add__" = some (some (.ref f9)))
    (i9 : PySem.W.isFn K (.ref f9) = true)
    (l9 : K.lookup f9 = some ⟨oc9, od9, .func (PySem.W.fnOf "__add__" "Form.__add__" (defArgs s_Form_add) (defBody s_Form_add) (defScope s_Form_add) .none kV9 dc9 pm9 an9 cd9 ct9), sl9⟩)
    (c9 : PySem.W.codeIn K cd9 "Form.__add__" = true)
    (k9 : PySem.W.keepIn K (.ref f9) = true)
    {f10 : Addr} {od10 an10 : Option Addr} {sl10 : Array (Option Value)} {oc10 kV10 dc10 pm10 cd10 ct10 : Value}
    {p10 : Addr} {pr10 : List Value}
    (a10 : PySem.W.findCls K (.ref C0) mc0 "constant" = some (.get (.builtin "staticmethod.__get__") (.ref p10) .none (.ref C0)))
    (pc10 : PySem.W.recIn K p10 "staticmethod" = some (.ref f10 :: pr10))
    (l10 : K.lookup f10 = some ⟨oc10, od10, .func (PySem.W.fnOf "constant" "Form.constant" (defArgs s_Form_constant) (defBody s_Form_constant) (defScope s_Form_constant) .none kV10 dc10 pm10 an10 cd10 ct10), sl10⟩)
    (c10 : PySem.W.codeIn K cd10 "Form.constant" = true)
    (k10 : PySem.W.keepIn K (.ref f10) = true)
    {f11 : Addr} {od11 an11 : Option Addr} {sl11 : Array (Option Value)} {oc11 kV11 dc11 pm11 cd11 ct11 : Value}
    {p11 : Addr} {pr11 : List Value}
    (a11 : PySem.W.findCls K (.ref C0) mc0 "named" = some (.get (.builtin "staticmethod.__get__") (.ref p11) .none (.ref C0)))
    (pc11 : PySem.W.recIn K p11 "staticmethod" = some (.ref f11 :: pr11))
    (l11 : K.lookup f11 = some ⟨oc11, od11, .func (PySem.W.fnOf "named" "Form.named" (defArgs s_Form_named) (defBody s_Form_named) (defScope s_Form_named) .none kV11 dc11 pm11 an11 cd11 ct11), sl11⟩)
    (c11 : PySem.W.codeIn K cd11 "Form.named" = true)
    (k11 : PySem.W.keepIn K (.ref f11) = true)
    {f12 : Addr} {od12 an12 : Option Addr} {sl12 : Array (Option Value)} {oc12 kV12 dc12 pm12 cd12 ct12 : Value}
    {p12 : Addr} {pr12 : List Value}
    (a12 : PySem.W.findCls K (.ref C0) mc0 "summed" = some (.get (.builtin "classmethod.__get__") (.ref p12) .none (.ref C0)))
    (pc12 : PySem.W.recIn K p12 "classmethod" = some (.ref f12 :: pr12))
    (fi12 : PySem.W.fnIn K f12 = true)
    (l12 : K.lookup f12 = some ⟨oc12, od12, .func (PySem.W.fnOf "summed" "Form.summed" (defArgs s_Form_summed) (defBody s_Form_summed) (defScope s_Form_summed) .none kV12 dc12 pm12 an12 cd12 ct12), sl12⟩)
    (c12 : PySem.W.codeIn K cd12 "Form.summed" = true)
    (k12 : PySem.W.keepIn K (.ref f12) = true)
    {f13 : Addr} {od13 an13 : Option Addr} {sl13 : Array (Option Value)} {oc13 kV13 dc13 pm13 cd13 ct13 : Value}
    (a13 : PySem.W.nsIn K mainGlobals "_law_mixed" = some (some (.ref f13)))
    (l13 : K.lookup f13 = some ⟨oc13, od13, .func (PySem.W.fnOf "_law_mixed" "_law_mixed" (defArgs s_mixed) (defBody s_mixed) (defScope s_mixed) .none kV13 dc13 pm13 an13 cd13 ct13), sl13⟩)
    (c13 : PySem.W.codeIn K cd13 "_law_mixed" = true)
    (k13 : PySem.W.keepIn K (.ref f13) = true)
    {f14 : Addr} {od14 an14 : Option Addr} {sl14 : Array (Option Value)} {oc14 kV14 dc14 pm14 cd14 ct14 : Value}
    (a14 : PySem.W.nsIn K mainGlobals "_law_bag" = some (some (.ref f14)))
    (l14 : K.lookup f14 = some ⟨oc14, od14, .func (PySem.W.fnOf "_law_bag" "_law_bag" (defArgs s_bag) (defBody s_bag) (defScope s_bag) .none kV14 dc14 pm14 an14 cd14 ct14), sl14⟩)
    (c14 : PySem.W.codeIn K cd14 "_law_bag" = true)
    (k14 : PySem.W.keepIn K (.ref f14) = true)
    {f15 : Addr} {od15 an15 : Option Addr} {sl15 : Array (Option Value)} {oc15 kV15 dc15 pm15 cd15 ct15 : Value}
    (a15 : PySem.W.nsIn K mainGlobals "_law_pick" = some (some (.ref f15)))
    (l15 : K.lookup f15 = some ⟨oc15, od15, .func (PySem.W.fnOf "_law_pick" "_law_pick" (defArgs s_pick) (defBody s_pick) (defScope s_pick) .none kV15 dc15 pm15 an15 cd15 ct15), sl15⟩)
    (c15 : PySem.W.codeIn K cd15 "_law_pick" = true)
    (k15 : PySem.W.keepIn K (.ref f15) = true)
    {f16 : Addr} {od16 an16 : Option Addr} {sl16 : Array (Option Value)} {oc16 kV16 dc16 pm16 cd16 ct16 : Value}
    (a16 : PySem.W.nsIn K mainGlobals "_law_choice" = some (some (.ref f16)))
    (l16 : K.lookup f16 = some ⟨oc16, od16, .func (PySem.W.fnOf "_law_choice" "_law_choice" (defArgs s_choice) (defBody s_choice) (defScope s_choice) .none kV16 dc16 pm16 an16 cd16 ct16), sl16⟩)
    (c16 : PySem.W.codeIn K cd16 "_law_choice" = true)
    (k16 : PySem.W.keepIn K (.ref f16) = true)
    {f17 : Addr} {od17 an17 : Option Addr} {sl17 : Array (Option Value)} {oc17 kV17 dc17 pm17 cd17 ct17 : Value}
    (a17 : PySem.W.nsIn K mainGlobals "_law_number" = some (some (.ref f17)))
    (l17 : K.lookup f17 = some ⟨oc17, od17, .func (PySem.W.fnOf "_law_number" "_law_number" (defArgs s_number) (defBody s_number) (defScope s_number) .none kV17 dc17 pm17 an17 cd17 ct17), sl17⟩)
    (c17 : PySem.W.codeIn K cd17 "_law_number" = true)
    (k17 : PySem.W.keepIn K (.ref f17) = true)
    {f18 : Addr} {od18 an18 : Option Addr} {sl18 : Array (Option Value)} {oc18 kV18 dc18 pm18 cd18 ct18 : Value}
    (a18 : PySem.W.nsIn K mainGlobals "_law_new_name" = some (some (.ref f18)))
    (l18 : K.lookup f18 = some ⟨oc18, od18, .func (PySem.W.fnOf "_law_new_name" "_law_new_name" (defArgs s_new_name) (defBody s_new_name) (defScope s_new_name) .none kV18 dc18 pm18 an18 cd18 ct18), sl18⟩)
    (c18 : PySem.W.codeIn K cd18 "_law_new_name" = true)
    (k18 : PySem.W.keepIn K (.ref f18) = true)
    {f19 : Addr} {od19 an19 : Option Addr} {sl19 : Array (Option Value)} {oc19 kV19 dc19 pm19 cd19 ct19 : Value}
    (a19 : PySem.W.nsIn K mainGlobals "_law_form" = some (some (.ref f19)))
    (l19 : K.lookup f19 = some ⟨oc19, od19, .func (PySem.W.fnOf "_law_form" "_law_form" (defArgs s_form) (defBody s_form) (defScope s_form) .none kV19 dc19 pm19 an19 cd19 ct19), sl19⟩)
    (c19 : PySem.W.codeIn K cd19 "_law_form" = true)
    (k19 : PySem.W.keepIn K (.ref f19) = true)
    {f20 : Addr} {od20 an20 : Option Addr} {sl20 : Array (Option Value)} {oc20 kV20 dc20 pm20 cd20 ct20 : Value}
    (a20 : PySem.W.nsIn K mainGlobals "_law_tall" = some (some (.ref f20)))
    (l20 : K.lookup f20 = some ⟨oc20, od20, .func (PySem.W.fnOf "_law_tall" "_law_tall" (defArgs s_tall) (defBody s_tall) (defScope s_tall) .none kV20 dc20 pm20 an20 cd20 ct20), sl20⟩)
    (c20 : PySem.W.codeIn K cd20 "_law_tall" = true)
    (k20 : PySem.W.keepIn K (.ref f20) = true)
    {f21 : Addr} {od21 an21 : Option Addr} {sl21 : Array (Option Value)} {oc21 kV21 dc21 pm21 cd21 ct21 : Value}
    (a21 : PySem.W.nsIn K mainGlobals "_law_drawn_form" = some (some (.ref f21)))
    (l21 : K.lookup f21 = some ⟨oc21, od21, .func (PySem.W.fnOf "_law_drawn_form" "_law_drawn_form" (defArgs s_drawn_form) (defBody s_drawn_form) (defScope s_drawn_form) .none kV21 dc21 pm21 an21 cd21 ct21), sl21⟩)
    (c21 : PySem.W.codeIn K cd21 "_law_drawn_form" = true)
    (k21 : PySem.W.keepIn K (.ref f21) = true)
    {f22 : Addr} {od22 an22 : Option Addr} {sl22 : Array (Option Value)} {oc22 kV22 dc22 pm22 cd22 ct22 : Value}
    (a22 : PySem.W.nsIn K mainGlobals "_law_deeper" = some (some (.ref f22)))
    (l22 : K.lookup f22 = some ⟨oc22, od22, .func (PySem.W.fnOf "_law_deeper" "_law_deeper" (defArgs s_deeper) (defBody s_deeper) (defScope s_deeper) .none kV22 dc22 pm22 an22 cd22 ct22), sl22⟩)
    (c22 : PySem.W.codeIn K cd22 "_law_deeper" = true)
    (k22 : PySem.W.keepIn K (.ref f22) = true)
    {f23 : Addr} {od23 an23 : Option Addr} {sl23 : Array (Option Value)} {oc23 kV23 dc23 pm23 cd23 ct23 : Value}
    (a23 : PySem.W.nsIn K mainGlobals "_law_count" = some (some (.ref f23)))
    (l23 : K.lookup f23 = some ⟨oc23, od23, .func (PySem.W.fnOf "_law_count" "_law_count" (defArgs s_count) (defBody s_count) (defScope s_count) .none kV23 dc23 pm23 an23 cd23 ct23), sl23⟩)
    (c23 : PySem.W.codeIn K cd23 "_law_count" = true)
    (k23 : PySem.W.keepIn K (.ref f23) = true)
    {f24 : Addr} {od24 an24 : Option Addr} {sl24 : Array (Option Value)} {oc24 kV24 dc24 pm24 cd24 ct24 : Value}
    (a24 : PySem.W.nsIn K mainGlobals "_law_odd_value" = some (some (.ref f24)))
    (l24 : K.lookup f24 = some ⟨oc24, od24, .func (PySem.W.fnOf "_law_odd_value" "_law_odd_value" (defArgs s_odd_value) (defBody s_odd_value) (defScope s_odd_value) .none kV24 dc24 pm24 an24 cd24 ct24), sl24⟩)
    (c24 : PySem.W.codeIn K cd24 "_law_odd_value" = true)
    (k24 : PySem.W.keepIn K (.ref f24) = true)
    {f25 : Addr} {od25 an25 : Option Addr} {sl25 : Array (Option Value)} {oc25 kV25 dc25 pm25 cd25 ct25 : Value}
    (a25 : PySem.W.nsIn K mainGlobals "_law_odd_name" = some (some (.ref f25)))
    (l25 : K.lookup f25 = some ⟨oc25, od25, .func (PySem.W.fnOf "_law_odd_name" "_law_odd_name" (defArgs s_odd_name) (defBody s_odd_name) (defScope s_odd_name) .none kV25 dc25 pm25 an25 cd25 ct25), sl25⟩)
    (c25 : PySem.W.codeIn K cd25 "_law_odd_name" = true)
    (k25 : PySem.W.keepIn K (.ref f25) = true)
    {f26 : Addr} {od26 an26 : Option Addr} {sl26 : Array (Option Value)} {oc26 kV26 dc26 pm26 cd26 ct26 : Value}
    (a26 : PySem.W.nsIn K mainGlobals "_law_bad" = some (some (.ref f26)))
    (l26 : K.lookup f26 = some ⟨oc26, od26, .func (PySem.W.fnOf "_law_bad" "_law_bad" (defArgs s_bad) (defBody s_bad) (defScope s_bad) .none kV26 dc26 pm26 an26 cd26 ct26), sl26⟩)
    (c26 : PySem.W.codeIn K cd26 "_law_bad" = true)
    (k26 : PySem.W.keepIn K (.ref f26) = true)
    {f27 : Addr} {od27 an27 : Option Addr} {sl27 : Array (Option Value)} {oc27 kV27 dc27 pm27 cd27 ct27 : Value}
    (a27 : PySem.W.nsIn K mainGlobals "_law_spoils" = some (some (.ref f27)))
    (l27 : K.lookup f27 = some ⟨oc27, od27, .func (PySem.W.fnOf "_law_spoils" "_law_spoils" (defArgs s_spoils) (defBody s_spoils) (defScope s_spoils) .none kV27 dc27 pm27 an27 cd27 ct27), sl27⟩)
    (c27 : PySem.W.codeIn K cd27 "_law_spoils" = true)
    (k27 : PySem.W.keepIn K (.ref f27) = true)
    {f28 : Addr} {od28 an28 : Option Addr} {sl28 : Array (Option Value)} {oc28 kV28 dc28 pm28 cd28 ct28 : Value}
    (a28 : PySem.W.nsIn K mainGlobals "_law_spoilt" = some (some (.ref f28)))
    (l28 : K.lookup f28 = some ⟨oc28, od28, .func (PySem.W.fnOf "_law_spoilt" "_law_spoilt" (defArgs s_spoilt) (defBody s_spoilt) (defScope s_spoilt) .none kV28 dc28 pm28 an28 cd28 ct28), sl28⟩)
    (c28 : PySem.W.codeIn K cd28 "_law_spoilt" = true)
    (k28 : PySem.W.keepIn K (.ref f28) = true)
    {f29 : Addr} {od29 an29 : Option Addr} {sl29 : Array (Option Value)} {oc29 kV29 dc29 pm29 cd29 ct29 : Value}
    (a29 : PySem.W.nsIn K mainGlobals "_law_is_name" = some (some (.ref f29)))
    (l29 : K.lookup f29 = some ⟨oc29, od29, .func (PySem.W.fnOf "_law_is_name" "_law_is_name" (defArgs s_law_is_name) (defBody s_law_is_name) (defScope s_law_is_name) .none kV29 dc29 pm29 an29 cd29 ct29), sl29⟩)
    (c29 : PySem.W.codeIn K cd29 "_law_is_name" = true)
    (k29 : PySem.W.keepIn K (.ref f29) = true)
    {f30 : Addr} {od30 an30 : Option Addr} {sl30 : Array (Option Value)} {oc30 kV30 dc30 pm30 cd30 ct30 : Value}
    (a30 : PySem.W.nsIn K mainGlobals "_law_first_wrong" = some (some (.ref f30)))
    (l30 : K.lookup f30 = some ⟨oc30, od30, .func (PySem.W.fnOf "_law_first_wrong" "_law_first_wrong" (defArgs s_first_wrong) (defBody s_first_wrong) (defScope s_first_wrong) .none kV30 dc30 pm30 an30 cd30 ct30), sl30⟩)
    (c30 : PySem.W.codeIn K cd30 "_law_first_wrong" = true)
    (k30 : PySem.W.keepIn K (.ref f30) = true)
    {f31 : Addr} {od31 an31 : Option Addr} {sl31 : Array (Option Value)} {oc31 kV31 dc31 pm31 cd31 ct31 : Value}
    (a31 : PySem.W.nsIn K mainGlobals "_law_levels" = some (some (.ref f31)))
    (l31 : K.lookup f31 = some ⟨oc31, od31, .func (PySem.W.fnOf "_law_levels" "_law_levels" (defArgs s_levels) (defBody s_levels) (defScope s_levels) .none kV31 dc31 pm31 an31 cd31 ct31), sl31⟩)
    (c31 : PySem.W.codeIn K cd31 "_law_levels" = true)
    (k31 : PySem.W.keepIn K (.ref f31) = true)
    {f32 : Addr} {od32 an32 : Option Addr} {sl32 : Array (Option Value)} {oc32 kV32 dc32 pm32 cd32 ct32 : Value}
    (a32 : PySem.W.nsIn K mainGlobals "_law_wrong" = some (some (.ref f32)))
    (l32 : K.lookup f32 = some ⟨oc32, od32, .func (PySem.W.fnOf "_law_wrong" "_law_wrong" (defArgs s_wrong) (defBody s_wrong) (defScope s_wrong) .none kV32 dc32 pm32 an32 cd32 ct32), sl32⟩)
    (c32 : PySem.W.codeIn K cd32 "_law_wrong" = true)
    (k32 : PySem.W.keepIn K (.ref f32) = true)
    {f33 : Addr} {od33 an33 : Option Addr} {sl33 : Array (Option Value)} {oc33 kV33 dc33 pm33 cd33 ct33 : Value}
    (a33 : PySem.W.nsIn K mainGlobals "_law_due_error" = some (some (.ref f33)))
    (l33 : K.lookup f33 = some ⟨oc33, od33, .func (PySem.W.fnOf "_law_due_error" "_law_due_error" (defArgs s_due_error) (defBody s_due_error) (defScope s_due_error) .none kV33 dc33 pm33 an33 cd33 ct33), sl33⟩)
    (c33 : PySem.W.codeIn K cd33 "_law_due_error" = true)
    (k33 : PySem.W.keepIn K (.ref f33) = true)
    {f34 : Addr} {od34 an34 : Option Addr} {sl34 : Array (Option Value)} {oc34 kV34 dc34 pm34 cd34 ct34 : Value}
    (a34 : PySem.W.nsIn K mainGlobals "_law_judged" = some (some (.ref f34)))
    (l34 : K.lookup f34 = some ⟨oc34, od34, .func (PySem.W.fnOf "_law_judged" "_law_judged" (defArgs s_judged) (defBody s_judged) (defScope s_judged) .none kV34 dc34 pm34 an34 cd34 ct34), sl34⟩)
    (c34 : PySem.W.codeIn K cd34 "_law_judged" = true)
    (k34 : PySem.W.keepIn K (.ref f34) = true)
    {f35 : Addr} {od35 an35 : Option Addr} {sl35 : Array (Option Value)} {oc35 kV35 dc35 pm35 cd35 ct35 : Value}
    (a35 : PySem.W.nsIn K mainGlobals "_law_constant" = some (some (.ref f35)))
    (l35 : K.lookup f35 = some ⟨oc35, od35, .func (PySem.W.fnOf "_law_constant" "_law_constant" (defArgs s_constant) (defBody s_constant) (defScope s_constant) .none kV35 dc35 pm35 an35 cd35 ct35), sl35⟩)
    (c35 : PySem.W.codeIn K cd35 "_law_constant" = true)
    (k35 : PySem.W.keepIn K (.ref f35) = true)
    {f36 : Addr} {od36 an36 : Option Addr} {sl36 : Array (Option Value)} {oc36 kV36 dc36 pm36 cd36 ct36 : Value}
    (a36 : PySem.W.nsIn K mainGlobals "_law_named" = some (some (.ref f36)))
    (l36 : K.lookup f36 = some ⟨oc36, od36, .func (PySem.W.fnOf "_law_named" "_law_named" (defArgs s_named) (defBody s_named) (defScope s_named) .none kV36 dc36 pm36 an36 cd36 ct36), sl36⟩)
    (c36 : PySem.W.codeIn K cd36 "_law_named" = true)
    (k36 : PySem.W.keepIn K (.ref f36) = true)
    {f37 : Addr} {od37 an37 : Option Addr} {sl37 : Array (Option Value)} {oc37 kV37 dc37 pm37 cd37 ct37 : Value}
    (a37 : PySem.W.nsIn K mainGlobals "_law_added" = some (some (.ref f37)))
    (l37 : K.lookup f37 = some ⟨oc37, od37, .func (PySem.W.fnOf "_law_added" "_law_added" (defArgs s_added) (defBody s_added) (defScope s_added) .none kV37 dc37 pm37 an37 cd37 ct37), sl37⟩)
    (c37 : PySem.W.codeIn K cd37 "_law_added" = true)
    (k37 : PySem.W.keepIn K (.ref f37) = true)
    {f38 : Addr} {od38 an38 : Option Addr} {sl38 : Array (Option Value)} {oc38 kV38 dc38 pm38 cd38 ct38 : Value}
    (a38 : PySem.W.nsIn K mainGlobals "law" = some (some (.ref f38)))
    (l38 : K.lookup f38 = some ⟨oc38, od38, .func (PySem.W.fnOf "law" "law" (defArgs s_law) (defBody s_law) (defScope s_law) .none kV38 dc38 pm38 an38 cd38 ct38), sl38⟩)
    (c38 : PySem.W.codeIn K cd38 "law" = true)
    (k38 : PySem.W.keepIn K (.ref f38) = true)
    (z0 : PySem.W.nsIn K mainGlobals "ValueError" = some none)
    (z1 : PySem.W.nsIn K mainGlobals "abs" = some none)
    (z2 : PySem.W.nsIn K mainGlobals "all" = some none)
    (z3 : PySem.W.nsIn K mainGlobals "bool" = some none)
    (z4 : PySem.W.nsIn K mainGlobals "enumerate" = some none)
    (z5 : PySem.W.nsIn K mainGlobals "int" = some none)
    (z6 : PySem.W.nsIn K mainGlobals "isinstance" = some none)
    (z7 : PySem.W.nsIn K mainGlobals "len" = some none)
    (z8 : PySem.W.nsIn K mainGlobals "list" = some none)
    (z9 : PySem.W.nsIn K mainGlobals "range" = some none)
    (z10 : PySem.W.nsIn K mainGlobals "repr" = some none)
    (z11 : PySem.W.nsIn K mainGlobals "str" = some none)
    (z12 : PySem.W.nsIn K mainGlobals "sum" = some none)
    (z13 : PySem.W.nsIn K mainGlobals "tuple" = some none)
    {w0 : Value}
    (y0 : PySem.W.nsIn K mainGlobals "LETTERS" = some (some w0))
    (x0 : ∃ t, w0 = .str "abcdefghijklmnopqrstuvwxyz" t)
    {w1 : Value}
    (y1 : PySem.W.nsIn K mainGlobals "MOST_LEVELS" = some (some w1))
    (x1 : ∃ t, w1 = .int 5 t)
    {D0 : Addr} {de0 : Array DictEntry} {dn0 : Nat}
    (da0 : PySem.W.nsIn K mainGlobals "COUNTS" = some (some (.ref D0)))
    (dl0 : K.lookup D0 = some ⟨.type "dict", none, .dict de0 dn0, #[]⟩)
    (dk0 : PySem.W.KeysLit W.params de0.toList)
    (dw0 : (D0 == sysModules) = false)
    {dt0_0 : Tok}
    (dv0_0 : PySem.W.nsIn K D0 "is" = some (some (.int 2 dt0_0)))
    {dt0_1 : Tok}
    (dv0_1 : PySem.W.nsIn K D0 "get" = some (some (.int 2 dt0_1)))
    {dt0_2 : Tok}
    (dv0_2 : PySem.W.nsIn K D0 "sum" = some (some (.int 3 dt0_2)))
    {dt0_3 : Tok}
    (dv0_3 : PySem.W.nsIn K D0 "same" = some (some (.int 3 dt0_3)))
    {dt0_4 : Tok}
    (dv0_4 : PySem.W.nsIn K D0 "pick" = some (some (.int 4 dt0_4)))
    {dj0_0 : Tok} {dj0_1 : Tok} {dj0_2 : Tok} {dj0_3 : Tok} {dj0_4 : Tok}
    (dm0 : de0.toList.map (fun e => e.key) = [.str "is" dj0_0, .str "get" dj0_1, .str "sum" dj0_2, .str "same" dj0_3, .str "pick" dj0_4])
    (cg0 : PySem.W.plainGet K C0 Str.empty = true)
    (ch0 : PySem.W.hasDictIn K C0 = true)
    (co0 : PySem.W.plainOver K C0 = true)
    (cs0 : PySem.W.findIn K (.ref C0) "__setattr__" = some (some (.builtin "object.__setattr__")))
    (cf0_0 : PySem.W.findIn K (.ref C0) "_parts" = some none)
    (cra0 : PySem.W.readsIn K C0 mc0 = true)
    (crb0 : PySem.W.specialIn K (.ref C0) "__getattribute__" = some (some (.builtin "type.__getattribute__")))
    (cm0 : PySem.W.makesIn K C0 = true)
    (ck0 : PySem.W.keepIn K (.ref C0) = true)
    (ct0_a : PySem.W.findIn K (.ref C0) "__class__" = some (some (.builtin "object.__class__")))
    (ct0_b : PySem.W.specialIn K (.builtin "object.__class__") "__get__" = some (some (.builtin "getset_descriptor.__get__")))
    (ct0_c : PySem.W.takesIn K (.builtin "object.__class__") = some true)
    (ct0_d : PySem.W.mroIn K C0 (.type "object") = some true)
    {file : Str}
    {E0 : Addr}
    (xa0 : PySem.W.nsIn K mainGlobals "BadForm" = some (some (.ref E0)))
    {R0 : Addr}
    (ra0 : PySem.W.nsIn K mainGlobals "ScreenError" = some (some (.ref R0)))
    (rb0 : PySem.W.isClsIn K R0 = true)
    (rc0 : PySem.W.typeIn K (.ref R0) = some (.type "type"))
    (rd0 : PySem.W.subIn K (.ref R0) (.type "BaseException") = some true)
    {R1 : Addr}
    (ra1 : PySem.W.nsIn K mainGlobals "TooMany" = some (some (.ref R1)))
    (rb1 : PySem.W.isClsIn K R1 = true)
    (rc1 : PySem.W.typeIn K (.ref R1) = some (.type "type"))
    {R2 : Addr}
    (ra2 : PySem.W.nsIn K mainGlobals "NoName" = some (some (.ref R2)))
    (rb2 : PySem.W.isClsIn K R2 = true)
    (rc2 : PySem.W.typeIn K (.ref R2) = some (.type "type"))
    {R3 : Addr}
    (ra3 : PySem.W.nsIn K mainGlobals "BadNames" = some (some (.ref R3)))
    (rb3 : PySem.W.isClsIn K R3 = true)
    (rc3 : PySem.W.typeIn K (.ref R3) = some (.type "type"))
    {J0 : Addr}
    {xnm0 xq0 : Str} {xN0 : Addr} {xbs0 xbm0 xsub0 : List Value} {xsn0 : List Str} {xab0 : Bool} {xcol0 : Option Bool} {xdd0 : Option Addr} {xm00 xm10 xm20 xm30 xm50 : Option Value}
    (xL0 : K.lookup E0 = some (excClassObj xnm0 xq0 E0 xN0 xbs0 xbm0 true xsn0 xsub0 xab0 xcol0 xdd0 xm00 xm10 xm20 xm30 xm50 "ValueError.__new__"))
    (xr0 : PySem.HandSPX.refsVE xbm0 = true)
    (xs0 : PySem.W.findIn K (.ref E0) "__setattr__" = some (some (.builtin "object.__setattr__")))
    (xg0 : PySem.W.findIn K (.ref E0) "__getattribute__" = some (some (.builtin "BaseException.__getattribute__")))
    (xh0 : PySem.W.findIn K (.ref E0) "__getattr__" = some none)
    (xf0 : PySem.W.findIn K (.ref E0) "part" = some none)
    (xi0 : PySem.W.findIn K (.ref E0) "__init__" = some (some (.ref J0)))
    (xt0 : PySem.W.typeIn K (.ref J0) = some (.type "function"))
    {xoc0 xkV0 xdc0 xpm0 xct0 xccl0 xcl0 : Value} {xod0 xan0 xcdd0 xcld0 : Option Addr} {xsl0 xccs0 xcsl0 : Array (Option Value)} {cda0 cc0 : Addr} {xvs0 : Array Value} {xtf0 : Tok}
    (xl0 : K.lookup J0 = some ⟨xoc0, xod0, .func (PySem.W.ksFn "__init__" "BadForm.__init__" (defArgs s_BadForm_init) (defBody s_BadForm_init) (defScope s_BadForm_init) .none xkV0 xdc0 xpm0 xan0 (.ref cda0) xct0 cc0), xsl0⟩)
    (xd0 : PySem.W.codeIn K (.ref cda0) "BadForm.__init__" = true)
    (xe0 : K.lookup cda0 = some ⟨xccl0, xcdd0, .fields xvs0, xccs0⟩)
    (xv0 : xvs0[2]? = some (.str file xtf0))
    (xc0 : K.lookup cc0 = some ⟨xcl0, xcld0, .cell (some (.ref E0)), xcsl0⟩)
    (xk0 : PySem.W.keepIn K (.ref E0) = true)
    (xb0 : PySem.W.subIn K (.ref E0) (.type "BaseException") = some true)
    (xy0 : PySem.W.typeIn K (.ref E0) = some (.type "type"))
    (xj0 : PySem.W.hasDictIn K E0 = true)
    (xp0 : PySem.W.ks_superIn K E0 E0 "__init__" = some (some (.builtin "ValueError.__init__")))
    (xw0 : PySem.W.subIn K (.ref E0) (.type "ValueError") = some true)
    (xz0 : PySem.W.mroIn K E0 (.ref E0) = some true)
    (xo0 : PySem.W.nsIn K cStatics "thirdparty.any" = some none)
    (xu0 : PySem.W.nsIn K mainGlobals "super" = some none)
    (xca0 : PySem.W.findIn K (.ref E0) "__class__" = some (some (.builtin "object.__class__")))
    (xcb0 : PySem.W.specialIn K (.builtin "object.__class__") "__get__" = some (some (.builtin "getset_descriptor.__get__")))
    (xcc0 : PySem.W.takesIn K (.builtin "object.__class__") = some true)
    (xcd0 : PySem.W.mroIn K E0 (.type "object") = some true)
    (xn0_R2 : PySem.W.subIn K (.ref E0) (.ref R2) = some false)
    (xq0_R2 : (Value.ref E0 == Value.ref R2) = false)
    (xn0_R1 : PySem.W.subIn K (.ref E0) (.ref R1) = some false)
    (xq0_R1 : (Value.ref E0 == Value.ref R1) = false)
    (xn0_R3 : PySem.W.subIn K (.ref E0) (.ref R3) = some false)
    (xq0_R3 : (Value.ref E0 == Value.ref R3) = false)
    (xm0_0 : PySem.W.subIn K (.ref E0) (.ref R0) = some true)
    (xsc0 : PySem.W.isClsIn K E0 = true)
    (xss0 : PySem.W.subIn K (.ref E0) (.ref E0) = some true)
    (fr0 : PySem.W.firstIn K C0 = true)
    : ∃ T : Top K mg W, T.a_law = f38 ∧ T.x_file = file ∧ ∀ (s : Shared) (v : Value), BindsTo s T.d_law ⟨[v], []⟩ [("_law_script", v)] := by
  have F0 := fun_mk (st := s_is_name) l0 c0 k0
  have F1 := fun_mk (st := s_is_number) l1 c1 k1
  have F2 := fun_mk (st := s_is_part) l2 c2 k2
  have F3 := fun_mk (st := s_check_form) l3 c3 k3
  have F4 := fun_mk (st := s_value_of) l4 c4 k4
  have F5 := fun_mk (st := s_names_of) l5 c5 k5
  have F6 := fun_mk (st := s_write_form) l6 c6 k6
  have F7 := fun_mk (st := s_Form_init) l7 c7 k7
  have F8 := fun_mk (st := s_Form_parts) l8 c8 k8
  have F9 := fun_mk (st := s_Form_add) l9 c9 k9
  have F10 := fun_mk (st := s_Form_constant) l10 c10 k10
  have F11 := fun_mk (st := s_Form_named) l11 c11 k11
  have F12 := fun_mk (st := s_Form_summed) l12 c12 k12
  have F13 := fun_mk (st := s_mixed) l13 c13 k13
  have F14 := fun_mk (st := s_bag) l14 c14 k14
  have F15 := fun_mk (st := s_pick) l15 c15 k15
  have F16 := fun_mk (st := s_choice) l16 c16 k16
  have F17 := fun_mk (st := s_number) l17 c17 k17
  have F18 := fun_mk (st := s_new_name) l18 c18 k18
  have F19 := fun_mk (st := s_form) l19 c19 k19
  have F20 := fun_mk (st := s_tall) l20 c20 k20
  have F21 := fun_mk (st := s_drawn_form) l21 c21 k21
  have F22 := fun_mk (st := s_deeper) l22 c22 k22
  have F23 := fun_mk (st := s_count) l23 c23 k23
  have F24 := fun_mk (st := s_odd_value) l24 c24 k24
  have F25 := fun_mk (st := s_odd_name) l25 c25 k25
  have F26 := fun_mk (st := s_bad) l26 c26 k26
  have F27 := fun_mk (st := s_spoils) l27 c27 k27
  have F28 := fun_mk (st := s_spoilt) l28 c28 k28
  have F29 := fun_mk (st := s_law_is_name) l29 c29 k29
  have F30 := fun_mk (st := s_first_wrong) l30 c30 k30
  have F31 := fun_mk (st := s_levels) l31 c31 k31
  have F32 := fun_mk (st := s_wrong) l32 c32 k32
  have F33 := fun_mk (st := s_due_error) l33 c33 k33
  have F34 := fun_mk (st := s_judged) l34 c34 k34
  have F35 := fun_mk (st := s_constant) l35 c35 k35
  have F36 := fun_mk (st := s_named) l36 c36 k36
  have F37 := fun_mk (st := s_added) l37 c37 k37
  have F38 := fun_mk (st := s_law) l38 c38 k38
  exact ⟨⟨PySem.W.mg_none_of X G z0,
    PySem.W.mg_none_of X G z1,
    PySem.W.mg_none_of X G z2,
    PySem.W.mg_none_of X G z3,
    PySem.W.mg_none_of X G z4,
    PySem.W.mg_none_of X G z5,
    PySem.W.mg_none_of X G z6,
    PySem.W.mg_none_of X G z7,
    PySem.W.mg_none_of X G z8,
    PySem.W.mg_none_of X G z9,
    PySem.W.mg_none_of X G z10,
    PySem.W.mg_none_of X G z11,
    PySem.W.mg_none_of X G z12,
    PySem.W.mg_none_of X G z13,
    (by obtain ⟨t, e⟩ := x0; exact ⟨t, e ▸ PySem.W.mg_of X G y0⟩),
    (by obtain ⟨t, e⟩ := x1; exact ⟨t, e ▸ PySem.W.mg_of X G y1⟩),
    f0,
    _,
    F0,
    F0.binds (ps := ["thing"]) (fun _ _ _ _ _ _ us hl => match us, hl with | [_], _ => rfl),
    PySem.W.mg_of X G a0,
    f1,
    _,
    F1,
    F1.binds (ps := ["thing", "low", "high"]) (fun _ _ _ _ _ _ us hl => match us, hl with | [_, _, _], _ => rfl),
    PySem.W.mg_of X G a1,
    f2,
    _,
    F2,
    F2.binds (ps := ["part"]) (fun _ _ _ _ _ _ us hl => match us, hl with | [_], _ => rfl),
    PySem.W.mg_of X G a2,
    f3,
    _,
    F3,
    F3.binds (ps := ["parts"]) (fun _ _ _ _ _ _ us hl => match us, hl with | [_], _ => rfl),
    PySem.W.mg_of X G a3,
    f4,
    _,
    F4,
    F4.binds (ps := ["parts", "values"]) (fun _ _ _ _ _ _ us hl => match us, hl with | [_, _], _ => rfl),
    PySem.W.mg_of X G a4,
    f5,
    _,
    F5,
    F5.binds (ps := ["parts"]) (fun _ _ _ _ _ _ us hl => match us, hl with | [_], _ => rfl),
    PySem.W.mg_of X G a5,
    f6,
    _,
    F6,
    F6.binds (ps := ["parts"]) (fun _ _ _ _ _ _ us hl => match us, hl with | [_], _ => rfl),
    PySem.W.mg_of X G a6,
    f7,
    _,
    F7,
    F7.binds (ps := ["self", "parts"]) (fun _ _ _ _ _ _ us hl => match us, hl with | [_, _], _ => rfl),
    f8,
    _,
    F8,
    F8.binds (ps := ["self"]) (fun _ _ _ _ _ _ us hl => match us, hl with | [_], _ => rfl),
    f9,
    _,
    F9,
    F9.binds (ps := ["self", "other"]) (fun _ _ _ _ _ _ us hl => match us, hl with | [_, _], _ => rfl),
    f10,
    _,
    F10,
    F10.binds (ps := ["value"]) (fun _ _ _ _ _ _ us hl => match us, hl with | [_], _ => rfl),
    f11,
    _,
    F11,
    F11.binds (ps := ["name"]) (fun _ _ _ _ _ _ us hl => match us, hl with | [_], _ => rfl),
    f12,
    _,
    F12,
    (by exact bindS2 (B := fun us => bindArgs _ ⟨us, []⟩) (fun _ _  => rfl) (fun _ _ _ _  => rfl)),
    f13,
    _,
    F13,
    F13.binds (ps := ["_law_number_here", "_law_turn"]) (fun _ _ _ _ _ _ us hl => match us, hl with | [_, _], _ => rfl),
    PySem.W.mg_of X G a13,
    f14,
    _,
    F14,
    F14.binds (ps := ["_law_script"]) (fun _ _ _ _ _ _ us hl => match us, hl with | [_], _ => rfl),
    PySem.W.mg_of X G a14,
    f15,
    _,
    F15,
    F15.binds (ps := ["_law_bag_here", "_law_many"]) (fun _ _ _ _ _ _ us hl => match us, hl with | [_, _], _ => rfl),
    PySem.W.mg_of X G a15,
    f16,
    _,
    F16,
    F16.binds (ps := ["_law_bag_here", "_law_things"]) (fun _ _ _ _ _ _ us hl => match us, hl with | [_, _], _ => rfl),
    PySem.W.mg_of X G a16,
    f17,
    _,
    F17,
    F17.binds (ps := ["_law_thing"]) (fun _ _ _ _ _ _ us hl => match us, hl with | [_], _ => rfl),
    PySem.W.mg_of X G a17,
    f18,
    _,
    F18,
    F18.binds (ps := ["_law_bag_here", "_law_used"]) (fun _ _ _ _ _ _ us hl => match us, hl with | [_, _], _ => rfl),
    PySem.W.mg_of X G a18,
    f19,
    _,
    F19,
    F19.binds (ps := ["_law_bag_here", "_law_readable", "_law_levels_here"]) (fun _ _ _ _ _ _ us hl => match us, hl with | [_, _, _], _ => rfl),
    PySem.W.mg_of X G a19,
    f20,
    _,
    F20,
    F20.binds (ps := ["_law_bag_here", "_law_readable", "_law_levels_here"]) (fun _ _ _ _ _ _ us hl => match us, hl with | [_, _, _], _ => rfl),
    PySem.W.mg_of X G a20,
    f21,
    _,
    F21,
    F21.binds (ps := ["_law_bag_here", "_law_readable"]) (fun _ _ _ _ _ _ us hl => match us, hl with | [_, _], _ => rfl),
    PySem.W.mg_of X G a21,
    f22,
    _,
    F22,
    F22.binds (ps := ["_law_bag_here", "_law_readable", "_law_parts", "_law_times"]) (fun _ _ _ _ _ _ us hl => match us, hl with | [_, _, _, _], _ => rfl),
    PySem.W.mg_of X G a22,
    f23,
    _,
    F23,
    F23.binds (ps := ["_law_parts"]) (fun _ _ _ _ _ _ us hl => match us, hl with | [_], _ => rfl),
    PySem.W.mg_of X G a23,
    f24,
    _,
    F24,
    F24.binds (ps := ["_law_odd", "_law_told"]) (fun _ _ _ _ _ _ us hl => match us, hl with | [_, _], _ => rfl),
    PySem.W.mg_of X G a24,
    f25,
    _,
    F25,
    F25.binds (ps := ["_law_odd", "_law_told"]) (fun _ _ _ _ _ _ us hl => match us, hl with | [_, _], _ => rfl),
    PySem.W.mg_of X G a25,
    f26,
    _,
    F26,
    F26.binds (ps := ["_law_part", "_law_how", "_law_odd", "_law_told"]) (fun _ _ _ _ _ _ us hl => match us, hl with | [_, _, _, _], _ => rfl),
    PySem.W.mg_of X G a26,
    f27,
    _,
    F27,
    F27.binds (ps := ["_law_bag_here", "_law_used", "_law_parts"]) (fun _ _ _ _ _ _ us hl => match us, hl with | [_, _, _], _ => rfl),
    PySem.W.mg_of X G a27,
    f28,
    _,
    F28,
    F28.binds (ps := ["_law_parts", "_law_number_here", "_law_spoils_here"]) (fun _ _ _ _ _ _ us hl => match us, hl with | [_, _, _], _ => rfl),
    PySem.W.mg_of X G a28,
    f29,
    _,
    F29,
    F29.binds (ps := ["_law_told"]) (fun _ _ _ _ _ _ us hl => match us, hl with | [_], _ => rfl),
    PySem.W.mg_of X G a29,
    f30,
    _,
    F30,
    F30.binds (ps := ["_law_part"]) (fun _ _ _ _ _ _ us hl => match us, hl with | [_], _ => rfl),
    PySem.W.mg_of X G a30,
    f31,
    _,
    F31,
    F31.binds (ps := ["_law_parts"]) (fun _ _ _ _ _ _ us hl => match us, hl with | [_], _ => rfl),
    PySem.W.mg_of X G a31,
    f32,
    _,
    F32,
    F32.binds (ps := ["_law_parts"]) (fun _ _ _ _ _ _ us hl => match us, hl with | [_], _ => rfl),
    PySem.W.mg_of X G a32,
    f33,
    _,
    F33,
    F33.binds (ps := ["_law_error", "_law_due"]) (fun _ _ _ _ _ _ us hl => match us, hl with | [_, _], _ => rfl),
    PySem.W.mg_of X G a33,
    f34,
    _,
    F34,
    F34.binds (ps := ["_law_parts"]) (fun _ _ _ _ _ _ us hl => match us, hl with | [_], _ => rfl),
    PySem.W.mg_of X G a34,
    f35,
    _,
    F35,
    F35.binds (ps := ["_law_value"]) (fun _ _ _ _ _ _ us hl => match us, hl with | [_], _ => rfl),
    PySem.W.mg_of X G a35,
    f36,
    _,
    F36,
    F36.binds (ps := ["_law_value"]) (fun _ _ _ _ _ _ us hl => match us, hl with | [_], _ => rfl),
    PySem.W.mg_of X G a36,
    f37,
    _,
    F37,
    F37.binds (ps := ["_law_first", "_law_second", "_law_way"]) (fun _ _ _ _ _ _ us hl => match us, hl with | [_, _, _], _ => rfl),
    PySem.W.mg_of X G a37,
    f38,
    _,
    F38,
    F38.binds (ps := ["_law_script"]) (fun _ _ _ _ _ _ us hl => match us, hl with | [_], _ => rfl),
    PySem.W.mg_of X G a38,
    D0,
    de0,
    dn0,
    PySem.W.mg_of X G da0,
    dl0,
    dk0,
    dw0,
    ⟨_, dv0_0⟩,
    ⟨_, dv0_1⟩,
    ⟨_, dv0_2⟩,
    ⟨_, dv0_3⟩,
    ⟨_, dv0_4⟩,
    ⟨_, _, _, _, _, dm0⟩,
    C0,
    PySem.W.mg_of X G ca0,
    ⟨cg0, ch0, co0, cs0⟩,
    cf0_0,
    ⟨cm0, a7, i7, ck0⟩,
    ⟨a9, i9⟩,
    p8,
    ⟨a8, pg8, pt8, ⟨_, pc8⟩⟩,
    mc0,
    ⟨cra0, crb0⟩,
    ⟨_, a10, ⟨_, pc10⟩, k10⟩,
    ⟨_, a11, ⟨_, pc11⟩, k11⟩,
    p12,
    ⟨a12, ⟨_, pc12⟩, fi12⟩,
    ⟨ct0_a, ct0_b, ct0_c, ct0_d, if_pos (beq_self_eq_true _)⟩,
    file,
    R0,
    PySem.W.mg_of X G ra0,
    R1,
    PySem.W.mg_of X G ra1,
    R2,
    PySem.W.mg_of X G ra2,
    R3,
    PySem.W.mg_of X G ra3,
    E0,
    J0,
    PySem.W.mg_of X G xa0,
    fun P pf => { gC := PySem.W.mg_of X G xa0, cls := ⟨_, _, _, _, _, _, _, _, _, _, _, _, _, _, _, xL0, xr0⟩, sa := xs0, ga := xg0, gg := xh0, noN := xf0, iC := xi0, tC := xt0, kC := xk0, exC := xb0, tyC := xy0, hdC := xj0, fn := ⟨_, _, _, _, _, _, _, _, _, _, _, ⟨6, 17, 6, 21⟩, ⟨6, 23, 6, 27⟩, ⟨⟨7, 8, 7, 13⟩, ⟨7, 8, 7, 15⟩, ⟨7, 8, 7, 24⟩, ⟨7, 27, 7, 39⟩, ⟨7, 40, 7, 44⟩, ⟨7, 39, 7, 47⟩, ⟨7, 25, 7, 48⟩, ⟨7, 8, 7, 49⟩, ⟨7, 8, 7, 49⟩, ⟨8, 8, 8, 12⟩, ⟨8, 8, 8, 17⟩, ⟨8, 20, 8, 24⟩, ⟨8, 8, 8, 24⟩, 114, .inl rfl⟩, _, _, _, _, _, _, _, _, _, xl0, xd0, xe0, xv0, pf.1, xc0, ⟨_, fun _ => rfl⟩, fun _ _ => rfl⟩, sup := xp0, subV := xw0, mroS := xz0, opq := xo0, htop := pf.2, hsup := PySem.W.mg_none_of X G xu0, f1 := by decide, f2 := by decide, f3 := by decide, f4 := by decide, ml := by decide +kernel },
    ⟨_, xl0, rfl⟩,
    ⟨xg0, xh0, xb0, xj0, xca0, xcb0, xcc0, xcd0⟩,
    ⟨xg0, xh0, xb0, xj0⟩,
    kit_of xq0_R2 rb2 rc2 xn0_R2,
    kit_of xq0_R1 rb1 rc1 xn0_R1,
    kit_of xq0_R3 rb3 rc3 xn0_R3,
    kit_ty_of (by decide +kernel) xw0,
    exm_of rd0 rb0 rc0 xm0_0,
    exm_of xb0 xsc0 xy0 xss0,
    fr0⟩, rfl, rfl, fun s v => .of_eq rfl⟩
end K02
set_option Elab.async false
set_option linter.all false
set_option maxRecDepth 100000
set_option maxHeartbeats 4000000
namespace K02
open PySem PySem.Spec PyProof.Rows L2 XL
end K02
open PySem PySem.W PyProof.Rows
set_option maxHeartbeats 0 in
theorem PySem.Challenge.cw_drawnanew_k02_form_refusals_holds : PySem.Challenge.rw_drawnanew_k02_form_refusals.Holds := by
  w_on; o_law; k_head; (case hw => w_witness2)
  k_fill
  refine XL.walk_ofG (l := PySem.Challenge.rw_drawnanew_k02_form_refusals) (n := 63) (k := 84) (x := "_law_script") (CX := fun _ => L2.CX0) (sp := fun w => K02.spLaw _) rfl (by decide) rfl ⟨rfl, by decide, by decide⟩ (fun w h Y => PySem.W.kIn_of Y) ?F (fun _ _ a ns hl _ hS => ⟨a, ns, rfl, hS, hl, fun _ => rfl⟩) (fun _ _ _ _ _ h => h)
  case F =>
    intro w mg fa h KX G hmg
    refine' K02.law_end KX G hmg (K02.top_mk (W := w) KX G ?ca0 ?cr0 ?a0 ?l0 ?c0 ?k0 ?a1 ?l1 ?c1 ?k1 ?a2 ?l2 ?c2 ?k2 ?a3 ?l3 ?c3 ?k3 ?a4 ?l4 ?c4 ?k4 ?a5 ?l5 ?c5 ?k5 ?a6 ?l6 ?c6 ?k6 ?a7 ?i7 ?l7 ?c7 ?k7 ?a8 ?pg8 ?pt8 ?pc8 ?l8 ?c8 ?k8 ?a9 ?i9 ?l9 ?c9 ?k9 ?a10 ?pc10 ?l10 ?c10 ?k10 ?a11 ?pc11 ?l11 ?c11 ?k11 ?a12 ?pc12 ?fi12 ?l12 ?c12 ?k12 ?a13 ?l13 ?c13 ?k13 ?a14 ?l14 ?c14 ?k14 ?a15 ?l15 ?c15 ?k15 ?a16 ?l16 ?c16 ?k16 ?a17 ?l17 ?c17 ?k17 ?a18 ?l18 ?c18 ?k18 ?a19 ?l19 ?c19 ?k19 ?a20 ?l20 ?c20 ?k20 ?a21 ?l21 ?c21 ?k21 ?a22 ?l22 ?c22 ?k22 ?a23 ?l23 ?c23 ?k23 ?a24 ?l24 ?c24 ?k24 ?a25 ?l25 ?c25 ?k25 ?a26 ?l26 ?c26 ?k26 ?a27 ?l27 ?c27 ?k27 ?a28 ?l28 ?c28 ?k28 ?a29 ?l29 ?c29 ?k29 ?a30 ?l30 ?c30 ?k30 ?a31 ?l31 ?c31 ?k31 ?a32 ?l32 ?c32 ?k32 ?a33 ?l33 ?c33 ?k33 ?a34 ?l34 ?c34 ?k34 ?a35 ?l35 ?c35 ?k35 ?a36 ?l36 ?c36 ?k36 ?a37 ?l37 ?c37 ?k37 ?a38 ?l38 ?c38 ?k38 ?z0 ?z1 ?z2 ?z3 ?z4 ?z5 ?z6 ?z7 ?z8 ?z9 ?z10 ?z11 ?z12 ?z13 ?y0 ?x0 ?y1 ?x1 ?da0 ?dl0 ?dk0 ?dw0 ?dv0_0 ?dv0_1 ?dv0_2 ?dv0_3 ?dv0_4 ?dm0 ?cg0 ?ch0 ?co0 ?cs0 ?cf0_0 ?cra0 ?crb0 ?cm0 ?ck0 ?ct0_a ?ct0_b ?ct0_c ?ct0_d ?xa0 ?ra0 ?rb0 ?rc0 ?rd0 ?ra1 ?rb1 ?rc1 ?ra2 ?rb2 ?rc2 ?ra3 ?rb3 ?rc3 ?xL0 ?xr0 ?xs0 ?xg0 ?xh0 ?xf0 ?xi0 ?xt0 ?xl0 ?xd0 ?xe0 ?xv0 ?xc0 ?xk0 ?xb0 ?xy0 ?xj0 ?xp0 ?xw0 ?xz0 ?xo0 ?xu0 ?xca0 ?xcb0 ?xcc0 ?xcd0 ?xn0_R2 ?xq0_R2 ?xn0_R1 ?xq0_R1 ?xn0_R3 ?xq0_R3 ?xm0_0 ?xsc0 ?xss0 ?fr0) ?pf
    (case ca0 => k_is)
    (case cr0 => k_is)
    (case a0 => k_is)
    (case l0 => k_is)
    (case c0 => k_is)
    (case k0 => k_is)
    (case a1 => k_is)
    (case l1 => k_is)
    (case c1 => k_is)
    (case k1 => k_is)
    (case a2 => k_is)
    (case l2 => k_is)
    (case c2 => k_is)
    (case k2 => k_is)
    (case a3 => k_is)
    (case l3 => k_is)
    (case c3 => k_is)
    (case k3 => k_is)
    (case a4 => k_is)
    (case l4 => k_is)
    (case c4 => k_is)
    (case k4 => k_is)
    (case a5 => k_is)
    (case l5 => k_is)
    (case c5 => k_is)
    (case k5 => k_is)
    (case a6 => k_is)
    (case l6 => k_is)
    (case c6 => k_is)
    (case k6 => k_is)
    (case a7 => k_is)
    (case i7 => k_is)
    (case l7 => k_is)
    (case c7 => k_is)
    (case k7 => k_is)
    (case a8 => k_is)
    (case pg8 => k_is)
    (case pt8 => k_is)
    (case pc8 => k_is)
    (case l8 => k_is)
    (case c8 => k_is)
    (case k8 => k_is)
    (case a9 => k_is)
    (case i9 => k_is)
    (case l9 => k_is)
    (case c9 => k_is)
    (case k9 => k_is)
    (case a10 => k_is)
    (case pc10 => k_is)
    (case l10 => k_is)
    (case c10 => k_is)
    (case k10 => k_is)
    (case a11 => k_is)
    (case pc11 => k_is)
    (case l11 => k_is)
    (case c11 => k_is)
    (case k11 => k_is)
    (case a12 => k_is)
    (case pc12 => k_is)
    (case fi12 => k_is)
    (case l12 => k_is)
    (case c12 => k_is)
    (case k12 => k_is)
    (case a13 => k_is)
    (case l13 => k_is)
    (case c13 => k_is)
    (case k13 => k_is)
    (case a14 => k_is)
    (case l14 => k_is)
    (case c14 => k_is)
    (case k14 => k_is)
    (case a15 => k_is)
    (case l15 => k_is)
    (case c15 => k_is)
    (case k15 => k_is)
    (case a16 => k_is)
    (case l16 => k_is)
    (case c16 => k_is)
    (case k16 => k_is)
    (case a17 => k_is)
    (case l17 => k_is)
    (case c17 => k_is)
    (case k17 => k_is)
    (case a18 => k_is)
    (case l18 => k_is)
    (case c18 => k_is)
    (case k18 => k_is)
    (case a19 => k_is)
    (case l19 => k_is)
    (case c19 => k_is)
    (case k19 => k_is)
    (case a20 => k_is)
    (case l20 => k_is)
    (case c20 => k_is)
    (case k20 => k_is)
    (case a21 => k_is)
    (case l21 => k_is)
    (case c21 => k_is)
    (case k21 => k_is)
    (case a22 => k_is)
    (case l22 => k_is)
    (case c22 => k_is)
    (case k22 => k_is)
    (case a23 => k_is)
    (case l23 => k_is)
    (case c23 => k_is)
    (case k23 => k_is)
    (case a24 => k_is)
    (case l24 => k_is)
    (case c24 => k_is)
    (case k24 => k_is)
    (case a25 => k_is)
    (case l25 => k_is)
    (case c25 => k_is)
    (case k25 => k_is)
    (case a26 => k_is)
    (case l26 => k_is)
    (case c26 => k_is)
    (case k26 => k_is)
    (case a27 => k_is)
    (case l27 => k_is)
    (case c27 => k_is)
    (case k27 => k_is)
    (case a28 => k_is)
    (case l28 => k_is)
    (case c28 => k_is)
    (case k28 => k_is)
    (case a29 => k_is)
    (case l29 => k_is)
    (case c29 => k_is)
    (case k29 => k_is)
    (case a30 => k_is)
    (case l30 => k_is)
    (case c30 => k_is)
    (case k30 => k_is)
    (case a31 => k_is)
    (case l31 => k_is)
    (case c31 => k_is)
    (case k31 => k_is)
    (case a32 => k_is)
    (case l32 => k_is)
    (case c32 => k_is)
    (case k32 => k_is)
    (case a33 => k_is)
    (case l33 => k_is)
    (case c33 => k_is)
    (case k33 => k_is)
    (case a34 => k_is)
    (case l34 => k_is)
    (case c34 => k_is)
    (case k34 => k_is)
    (case a35 => k_is)
    (case l35 => k_is)
    (case c35 => k_is)
    (case k35 => k_is)
    (case a36 => k_is)
    (case l36 => k_is)
    (case c36 => k_is)
    (case k36 => k_is)
    (case a37 => k_is)
    (case l37 => k_is)
    (case c37 => k_is)
    (case k37 => k_is)
    (case a38 => k_is)
    (case l38 => k_is)
    (case c38 => k_is)
    (case k38 => k_is)
    (case z0 => k_is)
    (case z1 => k_is)
    (case z2 => k_is)
    (case z3 => k_is)
    (case z4 => k_is)
    (case z5 => k_is)
    (case z6 => k_is)
    (case z7 => k_is)
    (case z8 => k_is)
    (case z9 => k_is)
    (case z10 => k_is)
    (case z11 => k_is)
    (case z12 => k_is)
    (case z13 => k_is)
    (case y0 => k_is)
    (case x0 => exact ⟨_, rfl⟩)
    (case y1 => k_is)
    (case x1 => exact ⟨_, rfl⟩)
    (case da0 => k_is)
    (case dl0 => k_is)
    (case dk0 => k_keys)
    (case dw0 => rfl)
    (case dv0_0 => k_is)
    (case dv0_1 => k_is)
    (case dv0_2 => k_is)
    (case dv0_3 => k_is)
    (case dv0_4 => k_is)
    (case dm0 => rfl)
    (case cg0 => k_is)
    (case ch0 => k_is)
    (case co0 => k_is)
    (case cs0 => k_is)
    (case cf0_0 => k_is)
    (case cra0 => k_is)
    (case crb0 => k_is)
    (case cm0 => k_is)
    (case ck0 => k_is)
    (case ct0_a => k_is)
    (case ct0_b => k_is)
    (case ct0_c => k_is)
    (case ct0_d => k_is)
    (case xa0 => k_is)
    (case ra0 => k_is)
    (case rb0 => k_is)
    (case rc0 => k_is)
    (case rd0 => k_is)
    (case ra1 => k_is)
    (case rb1 => k_is)
    (case rc1 => k_is)
    (case ra2 => k_is)
    (case rb2 => k_is)
    (case rc2 => k_is)
    (case ra3 => k_is)
    (case rb3 => k_is)
    (case rc3 => k_is)
    (case xL0 => k_is)
    (case xr0 => first | rfl | decide +kernel)
    (case xs0 => k_is)
    (case xg0 => k_is)
    (case xh0 => k_is)
    (case xf0 => k_is)
    (case xi0 => k_is)
    (case xt0 => k_is)
    (case xl0 => k_is)
    (case xd0 => k_is)
    (case xe0 => k_is)
    (case xv0 => rfl)
    (case xc0 => k_is)
    (case xk0 => k_is)
    (case xb0 => k_is)
    (case xy0 => k_is)
    (case xj0 => k_is)
    (case xp0 => ks_is)
    (case xw0 => k_is)
    (case xz0 => k_is)
    (case xo0 => k_is)
    (case xu0 => k_is)
    (case xca0 => k_is)
    (case xcb0 => k_is)
    (case xcc0 => k_is)
    (case xcd0 => k_is)
    (case xn0_R2 => k_is)
    (case xq0_R2 => rfl)
    (case xn0_R1 => k_is)
    (case xq0_R1 => rfl)
    (case xn0_R3 => k_is)
    (case xq0_R3 => rfl)
    (case xm0_0 => k_is)
    (case xsc0 => k_is)
    (case xss0 => k_is)
    (case fr0 => (refine PySem.W.firstIn_self ?k9; (case k9 => k_is)))
    (case pf => exact ⟨by first | rfl | decide +kernel, by first | rfl | decide +kernel⟩)
