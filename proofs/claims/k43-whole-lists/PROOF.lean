import PyProof.Rows.All
import Wide.All
import OpenK.AllK
import Wide.FinOn
import HandS.ForMost
import HandS.Flow
import HandS.IsInst
import HandS.Wide
import HandS.Walk
import PyProof.Rows.IntBool
import HandS.Property
import HandS.Star
import HandS.OwnEq
import HandS.SetFor
import KE.GoesEnum
import KE.GoesMore
import HandS.Strs
import HandS.Deep
import HandS.TupAny
import KE.KRevSl
import KE.KOpsOwn
import HandS.ForExc
import HandS.FStr
import HandS.ExcField
import HandS.ExcIs
import HandS.ExcSuper
import KE.KExcSuper
import KE.KExcIs
import HandS.OwnIter
import HandS.IterNext
import HandS.Text
import HandS.Zip
import HandS.HotCalls
import PyProof.ReprRoads
import HandS.Ends
import PyProof.AutoSeq1
import HandS.IterVal
import OpenK.KMake
import HandS.Defaults
import HandS.NoneIn
import HandS.Style
import HandS.ClsMeth
import HandS.DictComp
import HandS.WideBits
import HandS.Finally
import HandS.DictTup
import PyProof.TupleKey
import HandS.GenList
import HandS.Codes
import PySem.Challenge.RW_drawnanew_k43_whole_lists
set_option Elab.async false
set_option linter.all false
set_option maxRecDepth 100000
set_option maxHeartbeats 4000000
/-! XBase: readings that compute, over the hand layer; the heap cut into a part that only grows and cells that change. -/
namespace XL
open PySem PySem.Spec PyProof.Rows L2
abbrev St := L2.St

/-! ### a reading may be exchanged for a stronger one -/
theorem pe_str {X : Cx} {e : Expr} {t t' : TE} (h : PE X e t) (k : ∀ σ H Q, t' σ H Q → t σ H Q) : PE X e t' := ⟨fun pins s σ H Q I q => h.run pins s σ H Q I (k σ H Q q)⟩
theorem pt_str {X : Cx} {e : Expr} {t t' : TT} (h : PT X e t) (k : ∀ σ H Q, t' σ H Q → t σ H Q) : PT X e t' := ⟨fun pins s σ H Q I q => h.run pins s σ H Q I (k σ H Q q)⟩
theorem ps_str {X : Cx} {e : Stmt} {t t' : TS} (h : PS X e t) (k : ∀ D σ H, t' D σ H → t D σ H) : PS X e t' := ⟨fun pins s σ H D I q => h.run pins s σ H D I (k D σ H q)⟩
theorem or_str {X : Cx} {f : Value → Value → Sem Value} {r r' : R2} (h : OpR X f r) (k : ∀ x y H Q, r' x y H Q → r x y H Q) : OpR X f r' := fun pins s σ H x y v u Q I rx ry q => h pins s σ H x y v u Q I rx ry (k x y H Q q)
theorem cr_str {X : Cx} {f : Value} {r r' : List V → Hp → VK → Prop} (h : CallR X f r) (k : ∀ xs H Q, r' xs H Q → r xs H Q) : CallR X f r' := fun pins s σ H xs us Q I rx q => h pins s σ H xs us Q I rx (k xs H Q q)
theorem OpR.or {X : Cx} {f : Value → Value → Sem Value} {r r' : R2} (h : OpR X f r) (h' : OpR X f r') : OpR X f (fun x y H Q => r x y H Q ∨ r' x y H Q) := by
  intro pins s σ H x y v u Q I rx ry q
  rcases q with q | q
  · exact h pins s σ H x y v u Q I rx ry q
  · exact h' pins s σ H x y v u Q I rx ry q

/-! ### names -/
def nth : St → Nat → Option V
  | [], _ => none
  | x :: _, 0 => x
  | _ :: r, n + 1 => nth r n
theorem nth_get : ∀ {σ : St} {i : Nat} {v : V}, nth σ i = some v → σ[i]? = some (some v)
  | [], _, _, h => nomatch h
  | _ :: _, 0, _, h => congrArg some h
  | _ :: r, n + 1, _, h => by
    rw [List.getElem?_cons_succ]
    exact nth_get (σ := r) h
def xVar (i : Nat) : TE := fun σ H Q => match nth σ i with
  | some v => Q v H
  | none => False
section
variable {X : Cx} {a b c : Expr} {ta tb tc : TE} {pos : Pos} {tA tB' : TT} {rest : List Expr}
theorem xv (i : Nat) {x : Str} {pos : Pos} (hN : X.N[i]? = some x := by rfl) (hv : Vis X.env.scope x := by first | exact Or.inl rfl | exact Or.inr (Or.inl rfl) | exact Or.inr (Or.inr rfl)) (hd : (x == ("__debug__" : Str)) = false := by decide)
    (hcd : (x == ("__classdict__" : Str)) = false := by decide) : PE X (.Name x pos) (xVar i) := pe_str (pe_var hN hv hd hcd) fun σ H Q h => by
  unfold xVar at h
  cases e : nth σ i with
  | none => rw [e] at h; exact h.elim
  | some v => rw [e] at h; exact ⟨v, nth_get e, h⟩

/-! ### arithmetic -/
theorem op_mul_ib : OpR X (binaryOp .Mult) (fun x y H Q => ∃ i k, x = .int i ∧ y = .bl k ∧ Q (.int (i * b2i k)) H) := by
  intro pins s σ H x y v u Q I rx ry h
  obtain ⟨i, k, rfl, rfl, q⟩ := h
  obtain ⟨t, rfl⟩ := rx
  cases ry
  refine PySem.IntBool.mul_int_bool ?_
  have e : (if k = true then (1 : Int) else 0) = b2i k := by cases k <;> rfl
  rw [e]
  exact ⟨.int (i * b2i k), H, I.tok _, ⟨_, rfl⟩, q⟩
def yAdd : R2 := fun x y H Q => match x, y with
  | .int i, .int j => Q (.int (i + j)) H
  | .int i, .bl k => Q (.int (i + b2i k)) H
  | .str a, .str b => a.length + b.length ≤ sizeLine ∧ ∀ r : Str, r = a ++ b → Q (.str r) H
  | .ref l, .ref b => rCat (.ref l) (.ref b) H Q
  | _, _ => False
theorem op_addY : OpR X (binaryOp .Add) yAdd := by
  refine or_str (OpR.or (op_add (X := X)) (OpR.or (op_add_ib (X := X)) (OpR.or (op_add_str (X := X)) (op_cat (X := X))))) fun x y H Q h => ?_
  unfold yAdd at h
  split at h
  · exact .inl ⟨_, _, rfl, rfl, h⟩
  · exact .inr (.inl ⟨_, _, rfl, rfl, h⟩)
  · exact .inr (.inr (.inl ⟨_, _, rfl, rfl, h.1, h.2 _ rfl⟩))
  · exact .inr (.inr (.inr h))
  · exact h.elim
def ySub : R2 := fun x y H Q => match x, y with
  | .int i, .int j => Q (.int (i - j)) H
  | _, _ => False
theorem op_subY : OpR X (binaryOp .Sub) ySub := by
  refine or_str (op_sub (X := X)) fun x y H Q h => ?_
  unfold ySub at h
  split at h
  · exact ⟨_, _, rfl, rfl, h⟩
  · exact h.elim
def yMul : R2 := fun x y H Q => match x, y with
  | .int i, .int j => CMul i j ∧ Q (.int (i * j)) H
  | .int i, .bl k => Q (.int (i * b2i k)) H
  | .ref l, .int k => rRep (.ref l) (.int k) H Q
  | _, _ => False
theorem op_mulY : OpR X (binaryOp .Mult) yMul := by
  refine or_str (OpR.or (op_mul (X := X)) (OpR.or (op_mul_ib (X := X)) (op_rep (X := X)))) fun x y H Q h => ?_
  unfold yMul at h
  split at h
  · exact .inl ⟨_, _, rfl, rfl, h.1, h.2⟩
  · exact .inr (.inl ⟨_, _, rfl, rfl, h⟩)
  · exact .inr (.inr h)
  · exact h.elim
def yMod : R2 := fun x y H Q => match x, y with
  | .int i, .int j => 0 < j ∧ ∀ r : Int, r = i % j → 0 ≤ r → r < j → Q (.int r) H
  | _, _ => False
theorem op_modY : OpR X (binaryOp .Mod) yMod := by
  refine or_str (op_mod (X := X)) fun x y H Q h => ?_
  unfold yMod at h
  split at h
  · exact ⟨_, _, rfl, rfl, h.1, h.2 _ rfl (Int.emod_nonneg _ (by have := h.1; omega)) (Int.emod_lt_of_pos _ h.1)⟩
  · exact h.elim
def yDiv : R2 := fun x y H Q => match x, y with
  | .int i, .int j => (0 < j ∧ j < 1073741824) ∧ ∀ r : Int, r = i / j → (0 ≤ i → 0 ≤ r) → Q (.int r) H
  | _, _ => False
theorem op_divY : OpR X (binaryOp .FloorDiv) yDiv := by
  refine or_str (op_fdiv (X := X)) fun x y H Q h => ?_
  unfold yDiv at h
  split at h
  · exact ⟨_, _, rfl, rfl, h.1, h.2 _ rfl (fun h0 => Int.ediv_nonneg h0 (by have := h.1.1; omega))⟩
  · exact h.elim
def yPow : R2 := fun x y H Q => match x, y with
  | .int i, .int j => CPow i j ∧ ∀ r : Int, r = i ^ j.toNat → Q (.int r) H
  | _, _ => False
theorem op_powY : OpR X (binaryOp .Pow) yPow := by
  refine or_str (op_pow (X := X)) fun x y H Q h => ?_
  unfold yPow at h
  split at h
  · exact ⟨_, _, rfl, rfl, h.1, h.2 _ rfl⟩
  · exact h.elim

/-! ### comparisons -/
def yCmp (p : Int → Int → Bool) : R2 := fun x y H Q => match x, y with
  | .int i, .int j => Q (.bl (p i j)) H
  | _, _ => False
theorem yCmp_rI {p : Int → Int → Bool} {x y : V} {H : Hp} {Q : VK} (h : yCmp p x y H Q) : rI0 (fun i j => .bl (p i j)) x y H Q := by
  unfold yCmp at h
  split at h
  · exact ⟨_, _, rfl, rfl, h⟩
  · exact h.elim
theorem op_ltY : OpR X (compareOp .Lt) (yCmp fun i j => decide (i < j)) := or_str (op_lt (X := X)) fun _ _ _ _ h => yCmp_rI h
theorem op_leY : OpR X (compareOp .LtE) (yCmp fun i j => decide (i ≤ j)) := or_str (op_le (X := X)) fun _ _ _ _ h => yCmp_rI h
theorem op_gtY : OpR X (compareOp .Gt) (yCmp fun i j => decide (j < i)) := or_str (op_gt (X := X)) fun _ _ _ _ h => yCmp_rI h
theorem op_geY : OpR X (compareOp .GtE) (yCmp fun i j => decide (j ≤ i)) := or_str (op_ge (X := X)) fun _ _ _ _ h => yCmp_rI h
def yEq (K : PySem.W.Frag) : R2 := fun x y H Q => match x, y with
  | .int i, .int j => Q (.bl (decide (i = j))) H
  | .str i, .str j => Q (.bl (decide (i = j))) H
  | .bl i, .bl j => Q (.bl (decide (i = j))) H
  | .ref a, .ref b => rEqD K (.ref a) (.ref b) H Q
  | x, y => scal x y = true ∧ Q (.bl (decide (x = y))) H
def yNe (K : PySem.W.Frag) : R2 := fun x y H Q => match x, y with
  | .int i, .int j => Q (.bl (!decide (i = j))) H
  | .str i, .str j => Q (.bl (!decide (i = j))) H
  | .bl i, .bl j => Q (.bl (!decide (i = j))) H
  | .ref a, .ref b => rNeD K (.ref a) (.ref b) H Q
  | x, y => scal x y = true ∧ Q (.bl (!decide (x = y))) H
theorem deci {i j : Int} : decide (V.int i = V.int j) = decide (i = j) := by by_cases h : i = j <;> simp [h]
theorem decs {i j : Str} : decide (V.str i = V.str j) = decide (i = j) := by by_cases h : i = j <;> simp [h]
theorem decb {i j : Bool} : decide (V.bl i = V.bl j) = decide (i = j) := by by_cases h : i = j <;> simp [h]
theorem op_eqY (hu : X.A.units + 64 < cLine) : OpR X (compareOp .Eq) (yEq X.K) := by
  refine or_str (OpR.or (op_eq (X := X)) (op_eqD hu)) fun x y H Q h => ?_
  unfold yEq at h
  split at h
  · exact .inl ⟨rfl, by rw [deci]; exact h⟩
  · exact .inl ⟨rfl, by rw [decs]; exact h⟩
  · exact .inl ⟨rfl, by rw [decb]; exact h⟩
  · exact .inr h
  · exact .inl h
theorem op_neY (hu : X.A.units + 64 < cLine) : OpR X (compareOp .NotEq) (yNe X.K) := by
  refine or_str (OpR.or (op_ne (X := X)) (op_neD hu)) fun x y H Q h => ?_
  unfold yNe at h
  split at h
  · exact .inl ⟨rfl, by rw [deci]; exact h⟩
  · exact .inl ⟨rfl, by rw [decs]; exact h⟩
  · exact .inl ⟨rfl, by rw [decb]; exact h⟩
  · exact .inr h
  · exact .inl h

/-! ### tests -/
/-- a bool as a test -/
def xB (t : TE) : TT := fun σ H Q => t σ H fun x H1 => match x with
  | .bl c => Q c H1
  | _ => False
theorem pe_mono {X : Cx} {e : Expr} {t : TE} (_h : PE X e t) : True := trivial
theorem xt_cmp {op : CmpOp} {r : R2} (ho : OpR X (compareOp op) r) (ha : PE X a ta) (hb : PE X b tb) (hm : behindInMarks op b = false) : PT X (.Compare a [op] [b] pos) (xB (tOp r ta tb)) := by
  refine ⟨fun pins s σ H Q I h => ?_⟩
  refine wpAny_isTrue_Compare1 (thn (ha.run pins s σ H _ I h) fun v s1 ⟨x, H1, I1, r1, q1⟩ => thn (hb.run pins s1 σ H1 _ I1 q1) fun u s2 ⟨y, H2, I2, r2, q2⟩ =>
    thn (ho pins s2 σ H2 x y v u _ I2 r1 r2 q2) fun c s3 ⟨z, H3, I3, r3, q3⟩ => ?_) hm
  cases z with
  | bl k =>
    cases r3
    exact wpAny_truthy_bool ⟨H3, I3, q3⟩
  | _ => exact False.elim q3
theorem xt_val {e : Expr} {t : TE} (h : PE X e t) (he : ∀ whole, isTrue e X.env whole = (do let v ← whole; standAt e.pos; holding [v] (truthy v)) := by intro _; rfl) : PT X e (xB t) := by
  refine ⟨fun pins s σ H Q I hw => ?_⟩
  refine isTrue_plain (thn (h.run pins s σ H _ I hw) fun v s1 ⟨x, H1, I1, r1, q1⟩ => ?_) (he _)
  cases x with
  | bl k =>
    cases r1
    exact wpAny_truthy_bool ⟨H1, I1, q1⟩
  | _ => exact False.elim q1
/-- the truth of a value -/
def yTru (K : PySem.W.Frag) (x : V) (H : Hp) (Q : Bool → Hp → Prop) : Prop := match x with
  | .bl c => Q c H
  | .int i => Q (i != 0) H
  | .non => Q false H
  | x => ∃ k, TruV K x H k ∧ Q k H
def xTru (K : PySem.W.Frag) (t : TE) : TT := fun σ H Q => t σ H fun x H1 => yTru K x H1 Q
theorem xt_tru (ha : PE X a ta) (he : ∀ whole, isTrue a X.env whole = (do let v ← whole; standAt a.pos; holding [v] (truthy v)) := by intro _; rfl) : PT X a (xTru X.K ta) := by
  have hq : PE X a (fun σ H Q => ta σ H Q) := ha
  refine ⟨fun pins s σ H Q I hw => ?_⟩
  refine isTrue_plain (thn (ha.run pins s σ H _ I hw) fun v s1 ⟨x, H1, I1, r1, q1⟩ => ?_) (he _)
  have q2 : ∃ k, TruV X.K x H1 k ∧ Q k H1 := by
    change yTru X.K x H1 Q at q1
    unfold yTru at q1
    split at q1
    · exact ⟨_, rfl, q1⟩
    · exact ⟨_, rfl, q1⟩
    · exact ⟨_, rfl, q1⟩
    · exact q1
  exact tru_ok pins s1 σ H1 x v Q I1 r1 q2
def xAnd (t u : TT) : TT := fun σ H Q => t σ H fun c H1 => (c = true → u σ H1 Q) ∧ (c = false → Q false H1)
def xOr (t u : TT) : TT := fun σ H Q => t σ H fun c H1 => (c = true → Q true H1) ∧ (c = false → u σ H1 Q)
theorem xw_and (ha : PT X a tA) (hb : PW X (.BoolOp .And (b :: rest) pos) tB') : PW X (.BoolOp .And (a :: b :: rest) pos) (xAnd tA tB') := by
  refine ⟨fun wh pins s0 σ H Q J h => ?_⟩
  refine isTrue_and (thn (ha.run pins s0 σ H _ J h) fun k s2 ⟨H2, J2, q2⟩ => ?_)
  cases k with
  | true => exact hb.run wh pins s2 σ H2 Q J2 (q2.1 rfl)
  | false => exact ⟨H2, J2, q2.2 rfl⟩
theorem xw_or (ha : PT X a tA) (hb : PW X (.BoolOp .Or (b :: rest) pos) tB') : PW X (.BoolOp .Or (a :: b :: rest) pos) (xOr tA tB') := by
  refine ⟨fun wh pins s0 σ H Q J h => ?_⟩
  refine isTrue_or (thn (ha.run pins s0 σ H _ J h) fun k s2 ⟨H2, J2, q2⟩ => ?_)
  cases k with
  | true => exact ⟨H2, J2, q2.1 rfl⟩
  | false => exact hb.run wh pins s2 σ H2 Q J2 (q2.2 rfl)
/-- and, or, not as values: of bools -/
def xAndV (ta tb : TE) : TE := fun σ H Q => ta σ H fun x H1 => match x with
  | .bl c => (c = true → tb σ H1 Q) ∧ (c = false → Q (.bl false) H1)
  | _ => False
def xOrV (ta tb : TE) : TE := fun σ H Q => ta σ H fun x H1 => match x with
  | .bl c => (c = true → Q (.bl true) H1) ∧ (c = false → tb σ H1 Q)
  | _ => False
def xNotV (ta : TE) : TE := fun σ H Q => ta σ H fun x H1 => match x with
  | .bl c => Q (.bl (!c)) H1
  | _ => False
theorem xe_and (ha : PE X a ta) (hb : PE X (.BoolOp .And (b :: rest) pos) tb) : PE X (.BoolOp .And (a :: b :: rest) pos) (xAndV ta tb) := by
  refine ⟨fun pins s0 σ H Q J h => ?_⟩
  refine BoolOp_and (thn (ha.run pins s0 σ H _ J h) fun v s2 ⟨x, H2, J2, r2, q2⟩ => ?_)
  cases x with
  | bl k =>
    cases r2
    refine wpAny_truthy_bool ?_
    cases k with
    | true => exact hb.run pins s2 σ H2 Q J2 (q2.1 rfl)
    | false => exact ⟨.bl false, H2, J2, rfl, q2.2 rfl⟩
  | _ => exact False.elim q2
theorem xe_or (ha : PE X a ta) (hb : PE X (.BoolOp .Or (b :: rest) pos) tb) : PE X (.BoolOp .Or (a :: b :: rest) pos) (xOrV ta tb) := by
  refine ⟨fun pins s0 σ H Q J h => ?_⟩
  refine BoolOp_or (thn (ha.run pins s0 σ H _ J h) fun v s2 ⟨x, H2, J2, r2, q2⟩ => ?_)
  cases x with
  | bl k =>
    cases r2
    refine wpAny_truthy_bool ?_
    cases k with
    | true => exact ⟨.bl true, H2, J2, rfl, q2.1 rfl⟩
    | false => exact hb.run pins s2 σ H2 Q J2 (q2.2 rfl)
  | _ => exact False.elim q2
theorem xe_not (ha : PE X a ta) : PE X (.UnaryOp .Not a pos) (xNotV ta) := by
  refine ⟨fun pins s0 σ H Q J h => ?_⟩
  refine UnaryOp_ (thn (ha.run pins s0 σ H _ J h) fun v s2 ⟨x, H2, J2, r2, q2⟩ => ?_)
  cases x with
  | bl k =>
    cases r2
    exact not_of (wpAny_truthy_bool ⟨.bl (!k), H2, J2, rfl, q2⟩)
  | _ => exact False.elim q2
/-- a if t else b -/
def xIf (t : TT) (ta tb : TE) : TE := fun σ H Q => t σ H fun c H1 => (c = true → ta σ H1 Q) ∧ (c = false → tb σ H1 Q)
theorem xe_if {c : Expr} (hc : PT X c tA) (ha : PE X a ta) (hb : PE X b tb) : PE X (.IfExp c a b pos) (xIf tA ta tb) := by
  refine ⟨fun pins s0 σ H Q J h => ?_⟩
  refine wpAny_IfExp (thn (hc.run pins s0 σ H _ J h) fun k s2 ⟨H2, J2, q2⟩ => ?_)
  cases k with
  | true => exact ha.run pins s2 σ H2 Q J2 (q2.1 rfl)
  | false => exact hb.run pins s2 σ H2 Q J2 (q2.2 rfl)
/-- if t: .. else: .. -/
def xIfS (c : TT) (t u : TS) : TS := fun D σ H => c σ H fun b H1 => (b = true → t D σ H1) ∧ (b = false → u D σ H1)
theorem xs_if {c : Expr} {as bs : List Stmt} {tc : TT} {t u : TS} (hc : PT X c tc) (ha : PSs X as t) (hb : PSs X bs u) : PS X (.If c as bs pos) (xIfS tc t u) := by
  refine ⟨fun pins s0 σ H D J h => ?_⟩
  refine wpAny_If (thn (hc.run pins s0 σ H _ J h) fun k s2 ⟨H2, J2, q2⟩ => ?_)
  cases k with
  | true => exact ha.run pins s2 σ H2 D J2 (q2.1 rfl)
  | false => exact hb.run pins s2 σ H2 D J2 (q2.2 rfl)

/-! ### calls of built-ins -/
def yLen (K : PySem.W.Frag) : List V → Hp → VK → Prop := fun xs H Q => match xs with
  | [.str y] => y.length ≤ sizeLine ∧ Q (.int y.length) H
  | [.ref p] => ∃ ys, (SqL K H p ys ∨ SqT K H p ys) ∧ Q (.int ys.length) H
  | _ => False
theorem cr_len : CallR X (.builtin "len") (yLen X.K) := by
  refine cr_str (call_len (X := X)) fun xs H Q h => ?_
  unfold yLen at h
  split at h
  · exact ⟨_, _, rfl, ⟨h.1, rfl⟩, h.2⟩
  · obtain ⟨ys, hy, q⟩ := h
    rcases hy with hy | hy
    · exact ⟨_, _, rfl, .inl ⟨ys, hy, rfl⟩, q⟩
    · exact ⟨_, _, rfl, .inr ⟨ys, hy, rfl⟩, q⟩
  · exact h.elim
def yInt : List V → Hp → VK → Prop := fun xs H Q => match xs with
  | [.int i] => Q (.int i) H
  | [.bl k] => Q (.int (if k then 1 else 0)) H
  | [.str z] => ∃ n, PySem.intText? z = some n ∧ z.length ≤ 640 ∧ Q (.int n) H
  | _ => False
theorem cr_int : CallR X (.type "int") yInt := by
  refine cr_str (CallR.or (call_int1 (X := X)) (call_int_str (X := X))) fun xs H Q h => ?_
  unfold yInt at h
  split at h
  · exact .inl (.inl ⟨_, rfl, h⟩)
  · exact .inl (.inr ⟨_, rfl, h⟩)
  · obtain ⟨n, h1, h2, q⟩ := h
    exact .inr ⟨_, n, rfl, h1, h2, q⟩
  · exact h.elim
def yAbs : List V → Hp → VK → Prop := fun xs H Q => match xs with
  | [.int i] => Q (.int i.natAbs) H
  | _ => False
theorem cr_abs : CallR X (.builtin "abs") yAbs := by
  refine cr_str (call_abs (X := X)) fun xs H Q h => ?_
  unfold yAbs at h
  split at h
  · rename_i i
    refine ⟨i, rfl, ?_⟩
    have e : (if i < 0 then -i else i) = (i.natAbs : Int) := by split <;> omega
    rw [e]
    exact h
  · exact h.elim
def yStr : List V → Hp → VK → Prop := fun xs H Q => match xs with
  | [.int i] => i.natAbs.log2 < 1920 ∧ Q (.str (toString i)) H
  | _ => False
theorem cr_strI : CallR X (.type "str") yStr := by
  refine cr_str (call_str_int (X := X)) fun xs H Q h => ?_
  unfold yStr at h
  split at h
  · exact ⟨_, rfl, h.1, h.2⟩
  · exact h.elim
def yIx (K : PySem.W.Frag) : R2 := fun x y H Q => match x, y with
  | .ref p, .int i => ∃ xs v, (SqL K H p xs ∨ SqT K H p xs) ∧ atI xs i = some v ∧ Q v H
  | .str z, .int i => ∃ c, z.length ≤ sizeLine ∧ atI z.cps.toList i = some c ∧ Q (.str ⟨#[c]⟩) H
  | _, _ => False
theorem ix_y : IxR X (yIx X.K) := by
  intro value slice pins s σ H x y v u Q I rx ry h hs
  refine ix_seq (X := X) value slice pins s σ H x y v u Q I rx ry ?_ hs
  unfold yIx at h
  split at h
  · obtain ⟨xs, z, h1, h2, q⟩ := h
    rcases h1 with h1 | h1
    · exact .inl ⟨_, xs, _, z, rfl, rfl, h1, h2, q⟩
    · exact .inr (.inl ⟨_, xs, _, z, rfl, rfl, h1, h2, q⟩)
  · obtain ⟨k, h1, h2, q⟩ := h
    exact .inr (.inr ⟨_, _, k, rfl, rfl, h1, h2, q⟩)
  · exact h.elim
end

/-! ### the heap: what only grows, and the cells that change -/
def Sep (G : Hp) (M : List (Addr × HO)) (H : Hp) : Prop := Same G H ∧ (∀ p ∈ M, H p.1 = some p.2 ∧ G p.1 = none) ∧ (M.map (·.1)).Nodup
section
variable {G G' H H' : Hp} {M : List (Addr × HO)} {p a b : Addr} {o o' u : HO}
theorem same_upd (h : H p = none) : Same H (upd H p o) := fun b x e => by
  rw [upd_ne (ne_of_none e h)]
  exact e
theorem sep0 : Sep H [] H := ⟨Same.refl H, (fun _ h => nomatch h), List.nodup_nil⟩
theorem Sep.st (S : Sep G M H) (h : G a = some o) : H a = some o := S.1 a o h
theorem Sep.hd (S : Sep G ((a, o) :: M) H) : H a = some o := (S.2.1 _ List.mem_cons_self).1
theorem Sep.at (S : Sep G M H) (h : (a, o) ∈ M) : H a = some o := (S.2.1 _ h).1
theorem Sep.fresh (S : Sep G M H) (h : H p = none) : G p = none := S.1.free h
theorem Sep.new (S : Sep G M H) (h : H p = none) : Sep G ((p, o) :: M) (upd H p o) := by
  refine ⟨S.1.trans (same_upd h), fun q hq => ?_, ?_⟩
  · rcases List.mem_cons.mp hq with rfl | hq
    · exact ⟨upd_same, S.fresh h⟩
    · exact ⟨same_upd h _ _ (S.2.1 q hq).1, (S.2.1 q hq).2⟩
  · rw [List.map_cons, List.nodup_cons]
    refine ⟨fun hm => ?_, S.2.2⟩
    obtain ⟨q, hq, e⟩ := List.mem_map.mp hm
    have z := (S.2.1 q hq).1
    rw [e, h] at z
    cases z
theorem Sep.newG (S : Sep G M H) (h : H p = none) : Sep (upd G p o) M (upd H p o) := by
  refine ⟨fun b x e => ?_, fun q hq => ?_, S.2.2⟩
  · by_cases hb : b = p
    · subst hb
      rw [upd_same] at e ⊢
      exact e
    · rw [upd_ne hb] at e ⊢
      exact S.1 b x e
  · have z := S.2.1 q hq
    refine ⟨same_upd h _ _ z.1, ?_⟩
    rw [upd_ne (ne_of_none z.1 h)]
    exact z.2
theorem Sep.grow (S : Sep G M H) (h : H p = none) : Same G (upd G p o) := same_upd (S.fresh h)
theorem Sep.set (S : Sep G ((a, o) :: M) H) : Sep G ((a, o') :: M) (upd H a o') := by
  have hn := S.2.2
  rw [List.map_cons, List.nodup_cons] at hn
  have ha := S.2.1 _ List.mem_cons_self
  refine ⟨fun b x e => ?_, fun q hq => ?_, S.2.2⟩
  · rw [upd_ne (ne_of_none e ha.2)]
    exact S.1 b x e
  · rcases List.mem_cons.mp hq with rfl | hq
    · exact ⟨upd_same, ha.2⟩
    · refine ⟨?_, (S.2.1 q (List.mem_cons_of_mem _ hq)).2⟩
      rw [upd_ne (show q.1 ≠ a from fun e => hn.1 (by have z : q.1 ∈ M.map (·.1) := List.mem_map_of_mem hq
                                                      rw [e] at z; exact z))]
      exact (S.2.1 q (List.mem_cons_of_mem _ hq)).1
theorem Sep.frz (S : Sep G ((a, o) :: M) H) : Sep (upd G a o) M H := by
  have hn := S.2.2
  rw [List.map_cons, List.nodup_cons] at hn
  have ha := S.2.1 _ List.mem_cons_self
  refine ⟨fun b x e => ?_, fun q hq => ?_, hn.2⟩
  · by_cases hb : b = a
    · subst hb
      rw [upd_same] at e
      cases e
      exact ha.1
    · rw [upd_ne hb] at e
      exact S.1 b x e
  · have z := S.2.1 q (List.mem_cons_of_mem _ hq)
    refine ⟨z.1, ?_⟩
    rw [upd_ne (show q.1 ≠ a from fun e => hn.1 (by have z : q.1 ∈ M.map (·.1) := List.mem_map_of_mem hq
                                                    rw [e] at z; exact z))]
    exact z.2
theorem Sep.none (S : Sep G ((a, o) :: M) H) : G a = none := (S.2.1 _ List.mem_cons_self).2
theorem Sep.frzS (S : Sep G ((a, o) :: M) H) : Same G (upd G a o) := same_upd S.none
theorem Sep.drop {q : Addr × HO} (S : Sep G (q :: M) H) : Sep G M H := by
  have hn := S.2.2
  rw [List.map_cons, List.nodup_cons] at hn
  exact ⟨S.1, fun p hp => S.2.1 p (List.mem_cons_of_mem _ hp), hn.2⟩
theorem Sep.perm {M' : List (Addr × HO)} (S : Sep G M H) (h : M.Perm M') : Sep G M' H :=
  ⟨S.1, fun q hq => S.2.1 q (h.mem_iff.mpr hq), (h.map _).nodup_iff.mp S.2.2⟩
theorem Sep.sw {q r : Addr × HO} (S : Sep G (q :: r :: M) H) : Sep G (r :: q :: M) H := S.perm (List.Perm.swap _ _ _)
theorem same_l {K : PySem.W.Frag} {xs : List V} (e : Same H H') (h : SqL K H a xs) : SqL K H' a xs := e.seq h
theorem same_t {K : PySem.W.Frag} {xs : List V} (e : Same H H') (h : SqT K H a xs) : SqT K H' a xs := by
  rcases h with (h | ⟨o, h⟩) | h
  · exact .inl (.inl (e _ _ h))
  · exact .inl (.inr ⟨o, e _ _ h⟩)
  · exact .inr h
theorem Sep.l {K : PySem.W.Frag} {xs : List V} (S : Sep G M H) (h : SqL K G a xs) : SqL K H a xs := same_l S.1 h
theorem Sep.t {K : PySem.W.Frag} {xs : List V} (S : Sep G M H) (h : SqT K G a xs) : SqT K H a xs := same_t S.1 h
end
mutual
theorem dp_same {K : PySem.W.Frag} {H H' : Hp} (e : Same H H') : ∀ {d : PyData} {v : V}, Dp K H v d → Dp K H' v d
  | _, _, .non => .non
  | _, _, .bl b => .bl b
  | _, _, .int i => .int i
  | _, _, .str x => .str x
  | _, _, .lst h hs => .lst (same_l e h) (dpa_same e hs)
  | _, _, .tup h hs => .tup (same_t e h) (dpa_same e hs)
theorem dpa_same {K : PySem.W.Frag} {H H' : Hp} (e : Same H H') : ∀ {ds : List PyData} {vs : List V}, DpAll K H vs ds → DpAll K H' vs ds
  | _, _, .nil => .nil
  | _, _, .cons h hs => .cons (dp_same e h) (dpa_same e hs)
end

/-! ### loops by what has been gone through -/
theorem take_pre {α : Type} {xs : List α} {i : Nat} {x : α} (h : xs[i]? = some x) : xs = xs.take i ++ x :: xs.drop (i + 1) ∧ xs.take (i + 1) = xs.take i ++ [x] := by
  have hi : i < xs.length := (List.getElem?_eq_some_iff.mp h).1
  have e : xs[i] = x := (List.getElem?_eq_some_iff.mp h).2
  refine ⟨?_, ?_⟩
  · rw [← e, List.getElem_cons_drop, List.take_append_drop]
  · rw [List.take_add_one, h]
    rfl
section
variable {K : PySem.W.Frag} {a : Addr} {xs : List V} {g : TG} {tb : TS} {D : Ends} {σ : L2.St} {H : Hp}
theorem for_pre (Pv : List V → L2.St → Hp → Prop) (h0 : Pv [] σ H) (hl : ∀ pre σ H, Pv pre σ H → SqL K H a xs)
    (hs : ∀ pre x post σ H, xs = pre ++ x :: post → Pv pre σ H → g x σ H fun σ2 H2 => tb { D with nx := Pv (pre ++ [x]), ct := Pv (pre ++ [x]), bk := D.nx } σ2 H2) (hd : ∀ σ H, Pv xs σ H → D.nx σ H) :
    ∃ W : Nat → Nat → L2.St → Hp → Prop, (∃ m, W 0 m σ H) ∧ ∀ i m σ H, W i m σ H →
      ((Itl K a).stop i H ∧ D.nx σ H) ∨ ((Itl K a).go i H ∧ ∃ N : L2.St → Hp → Prop, (∀ σ' H', N σ' H' → ∃ m', m' < m ∧ W (i + 1) m' σ' H') ∧ ∀ x H', (Itl K a).yld i H x H' → g x σ H' fun σ2 H2 => tb { D with nx := N, ct := N, bk := D.nx } σ2 H2) :=
  for_list (fun i => Pv (xs.take i)) h0 (fun i σ H _ p => hl _ σ H p) (fun i x σ H hx p => by
    rw [(take_pre hx).2]
    exact hs _ x _ σ H (take_pre hx).1 p) (fun σ H p => hd σ H (by rw [List.take_length] at p; exact p))
theorem for_preT (Pv : List V → L2.St → Hp → Prop) (h0 : Pv [] σ H) (hl : ∀ pre σ H, Pv pre σ H → SqT K H a xs)
    (hs : ∀ pre x post σ H, xs = pre ++ x :: post → Pv pre σ H → g x σ H fun σ2 H2 => tb { D with nx := Pv (pre ++ [x]), ct := Pv (pre ++ [x]), bk := D.nx } σ2 H2) (hd : ∀ σ H, Pv xs σ H → D.nx σ H) :
    ∃ W : Nat → Nat → L2.St → Hp → Prop, (∃ m, W 0 m σ H) ∧ ∀ i m σ H, W i m σ H →
      ((Itt K a).stop i H ∧ D.nx σ H) ∨ ((Itt K a).go i H ∧ ∃ N : L2.St → Hp → Prop, (∀ σ' H', N σ' H' → ∃ m', m' < m ∧ W (i + 1) m' σ' H') ∧ ∀ x H', (Itt K a).yld i H x H' → g x σ H' fun σ2 H2 => tb { D with nx := N, ct := N, bk := D.nx } σ2 H2) :=
  for_tup (fun i => Pv (xs.take i)) h0 (fun i σ H _ p => hl _ σ H p) (fun i x σ H hx p => by
    rw [(take_pre hx).2]
    exact hs _ x _ σ H (take_pre hx).1 p) (fun σ H p => hd σ H (by rw [List.take_length] at p; exact p))
/-- for i, x in enumerate(xs) -/
theorem for_enum {i j : Nat} (Pv : List V → L2.St → Hp → Prop) (h0 : Pv [] σ H) (hl : ∀ pre σ H, Pv pre σ H → SqL K H a xs)
    (hs : ∀ pre x post σ H T, xs = pre ++ x :: post → Pv pre σ H → H T = none →
      tb { D with nx := Pv (pre ++ [x]), ct := Pv (pre ++ [x]), bk := D.nx } ((σ.set i (some (.int (pre.length : Nat)))).set j (some x)) (upd H T (.tup [.int (pre.length : Nat), x]))) (hd : ∀ σ H, Pv xs σ H → D.nx σ H) :
    ∃ W : Nat → Nat → L2.St → Hp → Prop, (∃ m, W 0 m σ H) ∧ ∀ k m σ H, W k m σ H →
      ((Ite K a).stop k H ∧ D.nx σ H) ∨ ((Ite K a).go k H ∧ ∃ N : L2.St → Hp → Prop, (∀ σ' H', N σ' H' → ∃ m', m' < m ∧ W (k + 1) m' σ' H') ∧ ∀ x H', (Ite K a).yld k H x H' →
        (gTup K 2 (gCons (gName i) (gCons (gName j) gNil))) x σ H' fun σ2 H2 => tb { D with nx := N, ct := N, bk := D.nx } σ2 H2) := by
  refine ⟨fun k m σ H => m = xs.length - k ∧ k ≤ xs.length ∧ Pv (xs.take k) σ H, ⟨xs.length, by simp, Nat.zero_le _, h0⟩, ?_⟩
  rintro k m σ H ⟨rfl, hk, p⟩
  have q := hl _ σ H p
  by_cases hlt : k < xs.length
  · refine .inr ⟨⟨xs, xs[k], q, by simp [hlt]⟩, Pv (xs.take (k + 1)), fun σ' H' p' => ⟨xs.length - (k + 1), by omega, rfl, hlt, p'⟩, fun v H' y => ?_⟩
    obtain ⟨T, x, rfl, nT, rfl, hx⟩ := y
    have hx := hx xs q
    refine ⟨T, _, rfl, SqT.of upd_same, rfl, _, _, rfl, _, _, rfl, rfl, ?_⟩
    have z := hs _ x _ σ H T (take_pre hx).1 p nT
    rw [(take_pre hx).2]
    rw [show (xs.take k).length = k by rw [List.length_take]; omega] at z
    exact z
  · have e : k = xs.length := by omega
    subst e
    rw [List.take_length] at p
    exact .inl ⟨⟨xs, q, Nat.le_refl _⟩, hd σ H p⟩
/-- [e for x in xs] -/
theorem lc_pre {te : TE} {vs : List Nat} {i : Nat} {H1 : Hp} {L : Addr} {Qd : Hp → Prop} (Pv : List V → Hp → Prop) (h0 : Pv [] (upd H1 L (.lst []))) (hl : ∀ pre H, Pv pre H → SqL K H a xs)
    (hw : ∀ x, wipe ((wipe σ vs).set i (some x)) vs = wipe σ vs)
    (hs : ∀ pre x post H, xs = pre ++ x :: post → Pv pre H → te ((wipe σ vs).set i (some x)) H fun y H4 => ∃ acc, H4 L = some (.lst acc) ∧ acc.length < sizeLine ∧ Pv (pre ++ [x]) (upd H4 L (.lst (acc ++ [y])))) (hd : ∀ H, Pv xs H → Qd H) :
    ∃ W : Nat → Nat → Hp → Prop, (∃ m, W 0 m (upd H1 L (.lst []))) ∧ ∀ k m H, W k m H →
      ((Itl K a).stop k H ∧ Qd H) ∨ ((Itl K a).go k H ∧ ∃ Nx : Hp → Prop, (∀ H', Nx H' → ∃ m', m' < m ∧ W (k + 1) m' H') ∧ ∀ x H', (Itl K a).yld k H x H' → gName i x (wipe σ vs) H' fun σ2 H2 => wipe σ2 vs = wipe σ vs ∧ tYes σ2 H2 fun b H3 =>
        if b = true then te σ2 H3 fun y H4 => ∃ acc, H4 L = some (.lst acc) ∧ acc.length < sizeLine ∧ Nx (upd H4 L (.lst (acc ++ [y]))) else Nx H3) :=
  lc_list (fun k => Pv (xs.take k)) h0 (fun k H _ p => hl _ H p) (fun k x H hx p => ⟨hw x, by
    rw [(take_pre hx).2]
    exact hs _ x _ H (take_pre hx).1 p⟩) (fun H p => hd H (by rw [List.take_length] at p; exact p))
/-- [e for x in range(n)] -/
theorem lc_rng {te : TE} {vs : List Nat} {i : Nat} {n : Nat} {lo : Int} {H1 : Hp} {L : Addr} {Qd : Hp → Prop} (Pv : Nat → Hp → Prop) (h0 : Pv 0 (upd H1 L (.lst [])))
    (hw : ∀ x, wipe ((wipe σ vs).set i (some x)) vs = wipe σ vs)
    (hs : ∀ k H, k < n → Pv k H → te ((wipe σ vs).set i (some (.int (lo + k)))) H fun y H4 => ∃ acc, H4 L = some (.lst acc) ∧ acc.length < sizeLine ∧ Pv (k + 1) (upd H4 L (.lst (acc ++ [y])))) (hd : ∀ H, Pv n H → Qd H) :
    ∃ W : Nat → Nat → Hp → Prop, (∃ m, W 0 m (upd H1 L (.lst []))) ∧ ∀ k m H, W k m H →
      ((Itr lo n).stop k H ∧ Qd H) ∨ ((Itr lo n).go k H ∧ ∃ Nx : Hp → Prop, (∀ H', Nx H' → ∃ m', m' < m ∧ W (k + 1) m' H') ∧ ∀ x H', (Itr lo n).yld k H x H' → gName i x (wipe σ vs) H' fun σ2 H2 => wipe σ2 vs = wipe σ vs ∧ tYes σ2 H2 fun b H3 =>
        if b = true then te σ2 H3 fun y H4 => ∃ acc, H4 L = some (.lst acc) ∧ acc.length < sizeLine ∧ Nx (upd H4 L (.lst (acc ++ [y]))) else Nx H3) :=
  lc_range (lo := lo) (n := n) Pv h0 (fun k H hk p => ⟨hw _, hs k H hk p⟩) hd
end
/-! ### places of lists -/
theorem atI_in {α : Type} {xs : List α} {i : Int} (h0 : 0 ≤ i) (h1 : i < xs.length) : ∃ v, atI xs i = some v ∧ v ∈ xs := by
  obtain ⟨j, rfl⟩ : ∃ j : Nat, i = (j : Int) := ⟨i.toNat, by omega⟩
  have hj : j < xs.length := by omega
  exact ⟨xs[j], atI_nat (List.getElem?_eq_getElem hj), List.getElem_mem hj⟩
theorem small {n : Nat} (h : n ≤ 100000) : n ≤ sizeLine := Nat.le_trans h (by decide)
theorem smallL {n : Nat} (h : n < 100000) : n < sizeLine := Nat.lt_of_lt_of_le h (by decide)
theorem sz {n : Nat} (h : Nat.ble n 100000 = true := by rfl) : n ≤ sizeLine := small (Nat.le_of_ble_eq_true h)
theorem seqIdx {i : Int} {n : Nat} (h0 : 0 ≤ i) (h1 : i < n) : seqIndex? i n = some i.toNat := by
  unfold seqIndex?
  have e : (if i < 0 then i + n else i) = i := by rw [if_neg (by omega)]
  simp only [e]
  rw [if_pos (by simp; omega)]
theorem atN {α : Type} {xs : List α} {i : Int} {v : α} (h0 : 0 ≤ i) (h : atI xs i = some v) : xs[i.toNat]? = some v := by
  obtain ⟨j, rfl⟩ : ∃ j : Nat, i = (j : Int) := ⟨i.toNat, by omega⟩
  unfold atI ixN at h
  rw [if_pos (by omega)] at h
  split at h
  · simpa using h
  · cases h
theorem mem_erase {α : Type} {xs : List α} {k : Nat} {y : α} (h : y ∈ xs.eraseIdx k) : y ∈ xs := List.mem_of_mem_eraseIdx h
/-- the i-th of a paired list -/
theorem prd_get {α β : Type} {F : α → β → Prop} : ∀ {xs : List α} {ys : List β} {i : Nat} {x : α}, Paired F xs ys → xs[i]? = some x → ∃ y, ys[i]? = some y ∧ F x y
  | _, _, _, _, .nil, h => by simp at h
  | _, _, 0, _, .cons r _, h => by
    simp at h
    subst h
    exact ⟨_, rfl, r⟩
  | _, _, i + 1, _, .cons _ t, h => by
    rw [List.getElem?_cons_succ] at h
    obtain ⟨y, h1, h2⟩ := prd_get t h
    exact ⟨y, by rw [List.getElem?_cons_succ]; exact h1, h2⟩
theorem prd_len {α β : Type} {F : α → β → Prop} : ∀ {xs : List α} {ys : List β}, Paired F xs ys → xs.length = ys.length
  | _, _, .nil => rfl
  | _, _, .cons _ t => congrArg (· + 1) (prd_len t)
theorem prd_imp {α β : Type} {F F' : α → β → Prop} (k : ∀ x y, F x y → F' x y) : ∀ {xs : List α} {ys : List β}, Paired F xs ys → Paired F' xs ys
  | _, _, .nil => .nil
  | _, _, .cons r t => .cons (k _ _ r) (prd_imp k t)
theorem prd_app {α β : Type} {F : α → β → Prop} : ∀ {xs xs' : List α} {ys ys' : List β}, Paired F xs ys → Paired F xs' ys' → Paired F (xs ++ xs') (ys ++ ys')
  | _, _, _, _, .nil, s => s
  | _, _, _, _, .cons r t, s => .cons r (prd_app t s)
theorem prd_take {α β : Type} {F : α → β → Prop} : ∀ {xs : List α} {ys : List β} (n : Nat), Paired F xs ys → Paired F (xs.take n) (ys.take n)
  | _, _, 0, _ => .nil
  | _, _, _ + 1, .nil => .nil
  | _, _, n + 1, .cons r t => .cons r (prd_take n t)
/-- each has a partner -/
theorem prd_ex {α β : Type} {F : α → β → Prop} : ∀ {xs : List α}, (∀ x ∈ xs, ∃ y, F x y) → ∃ ys, Paired F xs ys
  | [], _ => ⟨[], .nil⟩
  | x :: r, h => by
    obtain ⟨y, hy⟩ := h x List.mem_cons_self
    obtain ⟨ys, hs⟩ := prd_ex fun x hx => h x (List.mem_cons_of_mem _ hx)
    exact ⟨y :: ys, .cons hy hs⟩
theorem prd_mem {α β : Type} {F : α → β → Prop} {x : α} : ∀ {xs : List α} {ys : List β}, Paired F xs ys → x ∈ xs → ∃ y ∈ ys, F x y
  | _, _, .nil, h => nomatch h
  | _, _, .cons (b := b) r t, h => by
    rcases List.mem_cons.mp h with rfl | h
    · exact ⟨b, List.mem_cons_self, r⟩
    · obtain ⟨y, h1, h2⟩ := prd_mem t h
      exact ⟨y, List.mem_cons_of_mem _ h1, h2⟩
/-- a statement and what follows it, with a word J between them -/
def xCut (t u : TS) : TS := fun D σ H => ∃ J : L2.St → Hp → Prop, t { D with nx := J } σ H ∧ ∀ σ' H', J σ' H' → u D σ' H'
theorem xss_cut {X : Cx} {st : Stmt} {sts : List Stmt} {t u : TS} (h1 : PS X st t) (h2 : PSs X sts u) : PSs X (st :: sts) (xCut t u) := by
  refine ⟨fun pins s0 σ H D I h => ?_⟩
  obtain ⟨J, hj, hu⟩ := h
  refine wpAny_execs_cons (thn (h1.run pins s0 σ H { D with nx := J } I hj) fun fl s2 q => ?_)
  cases fl with
  | next =>
    obtain ⟨σ2, H2, I2, q2⟩ := q
    exact h2.run pins s2 σ2 H2 D I2 (hu σ2 H2 q2)
  | _ => exact q
section
variable {K : PySem.W.Frag} {a : Addr} {xs : List V} {σ : L2.St}
/-- [e for x in xs], by the turn -/
theorem lc_at {te : TE} {vs : List Nat} {i : Nat} {H1 : Hp} {L : Addr} {Qd : Hp → Prop} (Pv : Nat → Hp → Prop) (h0 : Pv 0 (upd H1 L (.lst []))) (hl : ∀ k H, Pv k H → SqL K H a xs)
    (hw : ∀ x, wipe ((wipe σ vs).set i (some x)) vs = wipe σ vs)
    (hs : ∀ k x H, xs[k]? = some x → Pv k H → te ((wipe σ vs).set i (some x)) H fun y H4 => ∃ acc, H4 L = some (.lst acc) ∧ acc.length < sizeLine ∧ Pv (k + 1) (upd H4 L (.lst (acc ++ [y])))) (hd : ∀ H, Pv xs.length H → Qd H) :
    ∃ W : Nat → Nat → Hp → Prop, (∃ m, W 0 m (upd H1 L (.lst []))) ∧ ∀ k m H, W k m H →
      ((Itl K a).stop k H ∧ Qd H) ∨ ((Itl K a).go k H ∧ ∃ Nx : Hp → Prop, (∀ H', Nx H' → ∃ m', m' < m ∧ W (k + 1) m' H') ∧ ∀ x H', (Itl K a).yld k H x H' → gName i x (wipe σ vs) H' fun σ2 H2 => wipe σ2 vs = wipe σ vs ∧ tYes σ2 H2 fun b H3 =>
        if b = true then te σ2 H3 fun y H4 => ∃ acc, H4 L = some (.lst acc) ∧ acc.length < sizeLine ∧ Nx (upd H4 L (.lst (acc ++ [y]))) else Nx H3) :=
  lc_list Pv h0 (fun k H _ p => hl _ H p) (fun k x H hx p => ⟨hw x, hs _ x H hx p⟩) hd
end
theorem take_snoc {α : Type} {xs : List α} {i : Nat} {x : α} (h : xs[i]? = some x) : xs.take (i + 1) = xs.take i ++ [x] := (take_pre h).2
theorem ff {A : Prop} (h : false = true) : A := nomatch h
theorem tt {A : Prop} (h : true = false) : A := nomatch h
/-! ### the same with the written part K said (within a comprehension the reading must not name its context) -/
section
variable {X : Cx} (K : PySem.W.Frag) {a b e o : Expr} {es : List Expr} {ta tb te to : TE} {t : TA} {pos : Pos} {tg : Expr}
theorem ix_k (h : X.K = K := by rfl) : IxR X (yIx K) := h ▸ ix_y
theorem cr_lenK (h : X.K = K := by rfl) : CallR X (.builtin "len") (yLen K) := h ▸ cr_len
theorem op_eqK (hu : X.A.units + 64 < cLine) (h : X.K = K := by rfl) : OpR X (compareOp .Eq) (yEq K) := h ▸ op_eqY hu
theorem op_neK (hu : X.A.units + 64 < cLine) (h : X.K = K := by rfl) : OpR X (compareOp .NotEq) (yNe K) := h ▸ op_neY hu
theorem xt_truK (ha : PE X a ta) (h : X.K = K := by rfl) (he : ∀ whole, isTrue a X.env whole = (do let v ← whole; standAt a.pos; holding [v] (truthy v)) := by intro _; rfl) : PT X a (xTru K ta) := h ▸ xt_tru ha he
theorem call_isK (h : X.K = K := by rfl) : CallR X (.builtin "isinstance") (rIsi K) := h ▸ call_isi
def yList (K : PySem.W.Frag) : List V → Hp → VK → Prop := fun xs H Q => ∃ p ys, xs = [.ref p] ∧ (SqL K H p ys ∨ SqT K H p ys) ∧ ∀ l, H l = none → Q (.ref l) (upd H l (.lst ys))
theorem call_listK (h : X.K = K := by rfl) : CallR X (.type "list") (yList K) := h ▸ call_list_of
def yTup (K : PySem.W.Frag) : List V → Hp → VK → Prop := fun xs H Q => ∃ p ys, xs = [.ref p] ∧ ((SqL K H p ys ∧ ∀ l, H l = none → Q (.ref l) (upd H l (.tup ys))) ∨ (SqT K H p ys ∧ Q (.ref p) H))
theorem call_tupleK (h : X.K = K := by rfl) : CallR X (.type "tuple") (yTup K) := h ▸ call_tuple_of
theorem cr_sumK (hc : X.calm = true) (h : X.K = K := by rfl) : CallR X (.builtin "sum") (rSum K) := h ▸ cr_sum hc
theorem sl_listK (h : X.K = K := by rfl) : SlR X (rSlL K) := h ▸ sl_list
theorem pi_listK (ha : PE X a ta) (h : X.K = K := by rfl) : PI X tg a (iList K ta) := h ▸ pi_list ha
theorem pi_tupK (ha : PE X a ta) (h : X.K = K := by rfl) : PI X tg a (iTup K ta) := h ▸ pi_tup ha
theorem pe_bmK {T id : String} {name : Str} {apos cpos : Pos} {r : V → List V → Hp → VK → Prop} (pa : PlainAttrs T) (slot : Slot T name id) (hty : typeOf (.builtin id) = pure (.type "method_descriptor")) (hm : MtR X id r) (ho : PE X o to) (ha : PA X (e :: es) t) (hK : X.K = K := by rfl)
    (hbase : attributeBase o name X.env (eval o X.env) = eval o X.env := by rfl)
    (hfew : ((backTo cpos (starEach (e :: es) X.env)).all (fun x => !x.1) && (backToKw cpos (keywordEach [] X.env)).all (fun x => x.1.isSome)
      && decide ((e :: es).length + ([] : List Keyword).length + (if ([] : List Keyword).isEmpty then 0 else 1) < 30)) = true := by rfl)
    (hline : (apos.endLine == cpos.line) = true := by rfl) (hs : starEach (e :: es) X.env = (false, eval e X.env) :: starEach es X.env := by rfl) (hplain : (backTo cpos (starEach es X.env)).any (·.1) = false := by rfl) :
    PE X (.Call (.Attribute o name apos) (e :: es) [] cpos) (tBM K T r to t) := hK ▸ pe_bm pa slot hty hm ho ha hbase hfew hline hs hplain
end
section
variable {X : Cx} {a b c o : Expr} {ta tb tc : TE} {pos : Pos}
/-- a op1 b op2 c, b asked once -/
def xChain (r r' : R2) (ta tb tc : TE) : TE := fun σ H Q => ta σ H fun x H1 => tb σ H1 fun y H2 => r x y H2 fun z H3 => match z with
  | .bl k => (k = true → tc σ H3 fun w' H4 => r' y w' H4 Q) ∧ (k = false → Q (.bl false) H3)
  | _ => False
theorem xe_chain {op op' : CmpOp} {r r' : R2} (ho : OpR X (compareOp op) r) (ho' : OpR X (compareOp op') r') (ha : PE X a ta) (hb : PE X b tb) (hc : PE X c tc)
    (hm : lastMarks [op, op'] [b, c] = false := by with_unfolding_all rfl) : PE X (.Compare a [op, op'] [b, c] pos) (xChain r r' ta tb tc) := by
  refine ⟨fun pins s0 σ H Q J h => ?_⟩
  refine Compare_chain (thn (ha.run pins s0 σ H _ J h) fun v s1 ⟨x, H1, J1, r1, q1⟩ => chain_link (thn (hb.run pins s1 σ H1 _ J1 q1) fun u s2 ⟨y, H2, J2, r2, q2⟩ =>
    thn (ho pins s2 σ H2 x y v u _ J2 r1 r2 q2) fun d s3 ⟨z, H3, J3, r3, q3⟩ => ?_)) hm
  cases z with
  | bl k =>
    cases r3
    refine wpAny_truthy_bool ?_
    cases k with
    | false => exact ite_ff ⟨.bl false, H3, J3, rfl, q3.2 rfl⟩
    | true => exact ite_tt (chain_last (thn (hc.run pins s3 σ H3 _ J3 (q3.1 rfl)) fun w' s4 ⟨z', H4, J4, r4, q4⟩ => ho' pins s4 σ H4 y z' u w' Q J4 r2 r4 q4))
  | _ => exact False.elim q3
theorem xt_chain {op op' : CmpOp} {r r' : R2} (ho : OpR X (compareOp op) r) (ho' : OpR X (compareOp op') r') (ha : PE X a ta) (hb : PE X b tb) (hc : PE X c tc)
    (hm : lastMarks [op, op'] [b, c] = false := by with_unfolding_all rfl) : PT X (.Compare a [op, op'] [b, c] pos) (xB (xChain r r' ta tb tc)) := by
  refine ⟨fun pins s0 σ H Q J h => ?_⟩
  refine isTrue_chain (thn (ha.run pins s0 σ H _ J h) fun v s1 ⟨x, H1, J1, r1, q1⟩ => test_link (thn (hb.run pins s1 σ H1 _ J1 q1) fun u s2 ⟨y, H2, J2, r2, q2⟩ =>
    thn (ho pins s2 σ H2 x y v u _ J2 r1 r2 q2) fun d s3 ⟨z, H3, J3, r3, q3⟩ => ?_)) hm
  cases z with
  | bl k =>
    cases r3
    refine wpAny_truthy_bool ?_
    cases k with
    | false => exact ite_ff ⟨H3, J3, q3.2 rfl⟩
    | true =>
      refine ite_tt (test_last (thn (hc.run pins s3 σ H3 _ J3 (q3.1 rfl)) fun w' s4 ⟨z', H4, J4, r4, q4⟩ => thn (ho' pins s4 σ H4 y z' u w' _ J4 r2 r4 q4) fun d' s5 ⟨z2, H5, J5, r5, q5⟩ => ?_))
      cases z2 with
      | bl k2 =>
        cases r5
        exact wpAny_truthy_bool ⟨H5, J5, q5⟩
      | _ => exact False.elim q5
  | _ => exact False.elim q3
/-- while: a word with its measure -/
def xWhile (c : TT) (tb : TS) : TS := fun D σ H => ∃ W : Nat → L2.St → Hp → Prop, (∃ m, W m σ H) ∧ ∀ m σ H, W m σ H → c σ H fun b H1 =>
  (b = true → tb { D with nx := fun σ' H' => ∃ m', m' < m ∧ W m' σ' H', ct := fun σ' H' => ∃ m', m' < m ∧ W m' σ' H', bk := D.nx } σ H1) ∧ (b = false → D.nx σ H1)
theorem xs_while {c : Expr} {body : List Stmt} {tc : TT} {tb : TS} (hp : PassesOwn (model X.prog X.w) X.A X.env X.xe) (hc : PT X c tc) (hb : PSs X body tb) : PS X (.While c body [] pos) (xWhile tc tb) := by
  refine ⟨fun pins s0 σ H D J h => ?_⟩
  obtain ⟨W, ⟨m0, w0⟩, turn⟩ := h
  refine wpAny_While (codeAny_whileLoop (fun n s' => ∃ σ' H', L2.Inv X pins σ' H' s' ∧ W n σ' H') ?_ m0 ⟨σ, H, J, w0⟩)
  rintro n s1 ⟨σ1, H1, J1, w1⟩
  refine wpAny_passesOwn hp (thn (hc.run pins s1 σ1 H1 _ J1 (turn n σ1 H1 w1)) fun k s2 ⟨H2, J2, q2⟩ => ?_)
  cases k with
  | true =>
    rw [if_pos rfl]
    refine wpAny_passesOwn hp (thn (hb.run pins s2 σ1 H2 _ J2 (q2.1 rfl)) fun f s3 q3 => ?_)
    cases f with
    | next =>
      obtain ⟨σ3, H3, J3, m', hm, w3⟩ := q3
      exact ⟨m', hm, σ3, H3, J3, w3⟩
    | cont =>
      obtain ⟨σ3, H3, J3, m', hm, w3⟩ := q3
      exact ⟨m', hm, σ3, H3, J3, w3⟩
    | brk => exact q3
    | ret v => exact q3
  | false =>
    rw [if_neg Bool.false_ne_true]
    exact wpAny_execs_nil ⟨σ1, H2, J2, q2.2 rfl⟩
/-- a comparison by an own method (__le__ ..) of two instances of C -/
def yOwn (C : Addr) (sp : Sp) (E : XK) : R2 := fun x y H Q => ∃ a b dx dy fs gs, x = .ref a ∧ y = .ref b ∧ H a = some (.ins C dx fs) ∧ H b = some (.ins C dy gs) ∧ sp [.ref a, .ref b] H Q E
theorem op_own {CX : CXT} {C f : Addr} {fd : FuncData} {ps : List Str} {sp : Sp} {E : XK} {op : CmpOp} {n : Nat} (hop : compareOp op = richCompare op) (F : FnOk X.prog X.w X.K X.mg X.base CX n f fd ps sp)
    (hs : PySem.W.findIn X.K (.ref C) (cmpInfo op).2.1 = some (some (.ref f))) (hf : PySem.W.isFn X.K (.ref f) = true) (hb : Binds X.K fd ps []) (hx : Passes CX X E) (hr : Room n X.A) : OpR X (compareOp op) (yOwn C sp E) := by
  intro pins s σ H x y u v Q I rx ry h
  obtain ⟨a, b, dx, dy, fs, gs, rfl, rfl, ha, hb', hsp⟩ := h
  cases rx
  cases ry
  rw [hop]
  obtain ⟨mA, J1, _⟩ := ins_get I.hok ha
  obtain ⟨mB, J2, _⟩ := ins_get I.hok hb'
  obtain ⟨od, J1, _⟩ := J1.look
  obtain ⟨od', J2, _⟩ := J2.look
  obtain ⟨m, hF⟩ := I.fr
  refine PySem.W.cmp_K (op := op) (tb := .ref C) hr.units0 hF I.ok.mod.kin J1 J2.type (by simp [PySem.W.notFirst]) hs hf ?_
  have hl := F.len _ _ _ _ hsp
  refine wpAny_mono (run_fn (us := [.ref a, .ref b]) (vs := [.ref a, .ref b]) (dvs := []) F hr hb .nil hx I (.cons rfl (.cons rfl .nil)) hsp) (fun v s' q => ?_) fun _ _ e => e
  obtain ⟨z, H', I', rz, q⟩ := q
  have fin : EP X pins σ Q v s' := ⟨z, H', I', rz, q⟩
  cases v <;> first | exact fin | (cases z <;> first | exact absurd (show _ = _ from rz) (by intro e; cases e) | (obtain ⟨_, e⟩ := rz; cases e))
variable (K : PySem.W.Frag)
theorem pe_fldK {f : Str} (ha : PE X a ta) (hb : attributeBase a f X.env (eval a X.env) = eval a X.env := by rfl) (h : X.K = K := by rfl) : PE X (.Attribute a f pos) (tFld K ta f) := h ▸ pe_fld ha hb
theorem in_seqK (h : X.K = K := by rfl) : OpR X (compareOp .In) (rIn K false) := h ▸ op_in_seq
theorem notin_seqK (h : X.K = K := by rfl) : OpR X (compareOp .NotIn) (rIn K true) := h ▸ op_notIn_seq
theorem mt_countK (h : X.K = K := by rfl) : MtR X "list.count" (rCntI K) := h ▸ mt_lcount
theorem cr_allK (hc : X.calm = true) (h : X.K = K := by rfl) : CallR X (.builtin "all") (rAll K) := h ▸ cr_all hc
theorem cr_anyK (hc : X.calm = true) (h : X.K = K := by rfl) : CallR X (.builtin "any") (rAny K) := h ▸ cr_any hc
end
theorem xe_glob {X : Cx} {x z : Str} {pos : Pos} (hg : Gl X x) (hm : ∃ t, X.mg x = some (.str z t)) (hd : (x == ("__debug__" : Str)) = false := by decide) : PE X (.Name x pos) (tC (.str z)) := by
  obtain ⟨t, hm⟩ := hm
  exact pe_glob hg hm ⟨_, rfl⟩ hd
theorem xe_globI {X : Cx} {x : Str} {z : Int} {pos : Pos} (hg : Gl X x) (hm : ∃ t, X.mg x = some (.int z t)) (hd : (x == ("__debug__" : Str)) = false := by decide) : PE X (.Name x pos) (tC (.int z)) := by
  obtain ⟨t, hm⟩ := hm
  exact pe_glob hg hm ⟨_, rfl⟩ hd
theorem prd_unsnoc {α β : Type} {F : α → β → Prop} {x : α} : ∀ {xs : List α} {ys : List β}, Paired F (xs ++ [x]) ys → ∃ ys' y, ys = ys' ++ [y] ∧ Paired F xs ys' ∧ F x y
  | [], _, .cons r .nil => ⟨[], _, rfl, .nil, r⟩
  | _ :: xs, _, .cons (b := b) r t => by
    obtain ⟨ys', y, rfl, h1, h2⟩ := prd_unsnoc (xs := xs) t
    exact ⟨b :: ys', y, rfl, .cons r h1, h2⟩
theorem nil_or_snoc {α : Type} (xs : List α) : xs = [] ∨ ∃ ys y, xs = ys ++ [y] := by
  rcases List.eq_nil_or_concat xs with h | ⟨ys, y, h⟩
  · exact .inl h
  · exact .inr ⟨ys, y, by simpa using h⟩
theorem pg_tupK {X : Cx} (K : PySem.W.Frag) (n : Nat) {es : List Expr} {k : Nat} {pos : Pos} {t : TGs} (h : PGs X es t) (hc : X.calm = true := by rfl) (hK : X.K = K := by rfl)
    (hn : (assignEach es X.env).length = n := by rfl) (hst : (assignEach es X.env).findIdx? (·.1) = none := by rfl) : PG X (.Tuple es k pos) (gTup K n t) := hK ▸ pg_tup hc h hn hst
theorem perm_erase {α : Type} : ∀ {xs : List α} {i : Nat} {x : α}, xs[i]? = some x → (x :: xs.eraseIdx i).Perm xs
  | [], _, _, h => by simp at h
  | y :: r, 0, x, h => by
    simp at h
    subst h
    exact List.Perm.refl _
  | y :: r, i + 1, x, h => by
    rw [List.getElem?_cons_succ] at h
    exact (List.Perm.swap _ _ _).trans (List.Perm.cons _ (perm_erase h))
theorem Sep.new2 {G H : Hp} {M : List (Addr × HO)} {x dx : Addr} {o u : HO} (S : Sep G M H) (h1 : H x = Option.none) (h2 : H dx = Option.none) (ne : dx ≠ x) : Sep G ((x, o) :: (dx, u) :: M) (upd (upd H dx u) x o) :=
  (S.new h2).new (by rw [upd_ne (Ne.symm ne)]; exact h1)
end XL
set_option Elab.async false
set_option linter.all false
set_option maxRecDepth 100000
set_option maxHeartbeats 4000000
/-! XIter: enumerate of a tuple. -/
namespace XL
open PySem PySem.Spec PyProof.Rows L2
theorem meets_enum1 {v : Value} {o : Obj} {Hq : Heap → Prop} (B : Begins v o Hq) :
    Meets (Builtin.«enumerate.__new__» ⟨[.type "enumerate", v], []⟩) (fun _ R s => Hq s.heap ∧
      R (.ok (.ret (.ref (s.heap.push o).objs.size))) { s with heap := (s.heap.push o).push { cls := .type "enumerate", data := .fields #[.none, .bool false, .ref s.heap.objs.size, rawInt 0, .none, .none] } }) :=
  .of_wp fun prog w A R s z => by
    obtain ⟨hp, g, d, tk, os⟩ := s
    obtain ⟨z1, z2⟩ := z
    have hsub := sub_enumerate
    have begin1 : ∀ {A' : Around} {E : Value → Shared → Prop} {Q : Value → Shared → Prop}, Q (.ref hp.objs.size) ⟨hp.push o, g, d, tk, os⟩ → wpAny (model prog w) A' (pyIter v) Q E ⟨hp, g, d, tk, os⟩ := fun q => B.iter prog w _ _ ⟨hp, g, d, tk, os⟩ _ z1 q
    wp_walk using begin1
    refine wpAny_stack_any fun st => wpAny_pure ?_
    split
    · rename_i c _ _ _ _ _
      cases (c == Value.type "enumerate") <;> (wp_walk using begin1; exact ⟨_, rfl, z2⟩)
    · wp_walk using begin1
      exact ⟨_, rfl, z2⟩
theorem call_enum1 {prog : Program} {w : World} {A : Around} {E : Value → Shared → Prop} {s : Shared} {v : Value} {o : Obj} {Hq : Heap → Prop} {Q : Value → Shared → Prop} (B : Begins v o Hq) (h1 : Hq s.heap)
    (k : ∀ h', IsEnum h' (s.heap.objs.size + 1) s.heap.objs.size 0 .none → h'.get? s.heap.objs.size = some o → (∀ b o, s.heap.get? b = some o → h'.get? b = some o) → Q (.ref (s.heap.objs.size + 1)) { s with heap := h' }) :
    wpAny (model prog w) A (call (.type "enumerate") [v]) Q E s := by
  refine callType_new F.called_enumerate (by decide) (F.typeCall_enumerate_1 _) (F.newCall_enumerate_1 _) (fun ob => F.args_object_init_2 ob _) F.entry_enumerate_new (meets_enum1 B) ⟨h1, ?_⟩
  have hz : (s.heap.push o).objs.size = s.heap.objs.size + 1 := Heap.size_push ..
  show _ ∧ _
  rw [hz]
  have he : IsEnum ((s.heap.push o).push { cls := .type "enumerate", data := .fields #[.none, .bool false, .ref s.heap.objs.size, rawInt 0, .none, .none] }) (s.heap.objs.size + 1) s.heap.objs.size 0 .none := by
    have z := Heap.get?_push_size (s.heap.push o) (o := { cls := .type "enumerate", data := .fields #[.none, .bool false, .ref s.heap.objs.size, rawInt 0, .none, .none] }) rfl
    rw [hz] at z
    exact z
  exact ⟨⟨_, he, rfl⟩, k _ he (Heap.get?_push_of_some _ (Heap.get?_push_size _ B.free)) fun b o x => Heap.get?_push_of_some _ (Heap.get?_push_of_some _ x)⟩
/-- the tuple at a, each item in a new pair -/
def IteT (K : PySem.W.Frag) (a : Addr) : It :=
  ⟨fun i H => ∃ (xs : List V) (x : V), SqT K H a xs ∧ xs[i]? = some x, fun i H v H' => ∃ T x, v = .ref T ∧ H T = none ∧ H' = upd H T (.tup [.int (i : Nat), x]) ∧ ∀ xs, SqT K H a xs → xs[i]? = some x, fun i H => ∃ xs : List V, SqT K H a xs ∧ xs.length ≤ i⟩
theorem turn_enumT {P : Program} {w : World} {K : PySem.W.Frag} {elts : List Expr} {kk : Nat} {tpos : Pos} (a e it : Addr) (hai : a ≠ it) (hae : a ≠ e) :
    Turn P w K (.Tuple elts kk tpos) (IteT K a) [e, it] e (fun i h => (∃ old, IsEnum h e it ((i : Nat) : Int) old) ∧ h.IsTupleIter it a i ∧ e ≠ it) where
  mem := by simp
  obj := fun i h st b hb => by
    obtain ⟨⟨old, he⟩, ⟨o, ho, hc, hd⟩, _⟩ := st
    have q : b = e ∨ b = it := by simpa using hb
    rcases q with z | z
    · rw [z]; exact ⟨_, he, fun v q => nomatch q⟩
    · rw [z]; exact ⟨o, ho, fun v q => by rw [hd] at q; cases q⟩
  keep := fun i h h' st k => let ⟨⟨old, he⟩, hi, hne⟩ := st; ⟨⟨old, k e (by simp) _ he⟩, hi.at fun o q => k it (by simp) o q, hne⟩
  item := by
    intro X hP hw hK hc i pins s σ H E I hf st hg
    subst hP hw hK
    obtain ⟨⟨old, he⟩, hit, hne⟩ := st
    obtain ⟨xs, x, hq, hx⟩ := hg
    obtain ⟨its, rv, p, hz⟩ := I.tuple hq
    obtain ⟨u, hu, ru⟩ := rv.get hx
    have hel : e < s.heap.objs.size := Heap.lt_size he
    have hil : it < s.heap.objs.size := by obtain ⟨_, q, _⟩ := hit; exact Heap.lt_size q
    have hlen : i < its.toArray.size := by
      have z := (List.getElem?_eq_some_iff.mp hu).1
      simpa using z
    refine wpAny_pyNext_enum_itemC (c := ((i : Nat) : Int)) (Draws.tuple (A := X.A.in1) (I.ok.hd hc) it a hai its.toArray) he ⟨hit, p⟩ hlen hne (by simp; exact ⟨hne, fun z => hae z.symm⟩) fun y h' tk hy ho st' hT hsz hk => ?_
    have ey : y = u := by
      have z : its[i]? = some y := by simpa using hy
      rw [hu] at z
      exact (Option.some.inj z).symm
    subst ey
    refine ⟨_, rfl, wpAny_letOwnedTupleGo_enum (s := { s with heap := h', toks := tk + 1 }) ho fun h'' he' sb => ?_⟩
    have hT2 : h''.get? s.heap.objs.size = some { cls := .type "tuple", data := .seq #[.int i tk, y] } := (sb.2 _ (Nat.ne_of_gt hel)).trans hT
    have new : ObjOk X.prog X.w (upd H s.heap.objs.size (.tup [.int (i : Nat), x])) h'' s.heap.objs.size (.tup [.int (i : Nat), x]) :=
      ⟨by show 2 ≤ sizeLine; decide, [.int i tk, y], .cons ⟨_, rfl⟩ (.cons ru .nil), ⟨_, hT2, rfl, _, rfl⟩⟩
    have I1 : L2.Inv X pins σ (upd H s.heap.objs.size (.tup [.int (i : Nat), x])) { s with heap := h'', toks := tk + 1 } :=
      I.turnedNew (ch := [e, it]) (fun b ob hb q => (sb.2 b (fun z => hb (by simp [z]))).trans (hk b ob (fun z => hb (by simp [z])) (fun z => hb (by simp [z])) q)) hf (Nat.le_refl _) new
    refine ⟨.ref s.heap.objs.size, _, I1, rfl, ⟨_, x, rfl, I.hok.fresh (Nat.le_refl _), rfl, fun ys hy => by rw [I.tuple_inj hy hq]; exact hx⟩, ⟨⟨y, ?_⟩, st'.1.at fun o q => (sb.2 it (Ne.symm hne)).trans q, hne⟩, fun b hb => ?_⟩
    · have e1 : ((i + 1 : Nat) : Int) = (i : Int) + 1 := by omega
      rw [e1]; exact he'
    · have hb2 : b < s.heap.objs.size := by
        have q : b = e ∨ b = it := by simpa using hb
        rcases q with z | z
        · rw [z]; exact hel
        · rw [z]; exact hil
      rw [upd_ne (Nat.ne_of_lt hb2)]
      exact (hf b hb).1
  done := by
    intro X hP hw hK hc i pins s σ H E I hf st hg
    subst hP hw hK
    obtain ⟨⟨old, he⟩, hit, hne⟩ := st
    obtain ⟨xs, hq, hx⟩ := hg
    obtain ⟨its, rv, p, hz⟩ := I.tuple hq
    obtain ⟨f0, f1, f2, f3, f4, f5⟩ := hf it (by simp)
    have hl := rv.length
    have D := Draws.tuple (prog := X.prog) (w := X.w) (A := X.A.in1) (I.ok.hd hc) it a hai its.toArray
    by_cases hi : i = its.toArray.size
    · subst hi
      exact wpAny_pyNext_enum_endD D he ⟨hit, p⟩ fun h' eb => ⟨rfl, I.turned (t' := s.toks) (fun b o hb q => eb b o hb q) f0 f1 f3 f4 f5⟩
    · have D2 : Draws X.prog X.w X.A.in1 it [it, a] i (fun _ _ => False) (fun j h => (j = i ∨ False) ∧ h.IsTupleIter it a i ∧ h.IsTuple a its.toArray) := {
        live := fun _ _ st => let ⟨o, ho, _⟩ := st.2.1; ⟨o, ho⟩
        frame := fun _ _ _ st hk => ⟨st.1, st.2.1.at fun o e => hk it (by simp) o e, st.2.2.at fun o e => hk a (by simp) o e⟩
        item := fun j s Q E hj st hQ => by
          rcases st.1 with z | z
          · omega
          · exact z.elim
        done := fun s Q E st hE => wpAny_nextOf_tuple_end (I.ok.hd hc) st.2.1 st.2.2 (by
          simp only [List.getElem?_toArray]
          exact List.getElem?_eq_none_iff.mpr (by omega)) hE }
      exact wpAny_pyNext_enum_endD D2 he ⟨.inl rfl, hit, p⟩ fun h' eb => ⟨rfl, I.turned (t' := s.toks) (fun b o hb q => eb b o hb q) f0 f1 f3 f4 f5⟩
  self := fun A i s Q E st h => let ⟨⟨_, he⟩, _⟩ := st; wpAny_pyIter_enum he h
def iEnumT (K : PySem.W.Frag) (ta : TA) : TI := fun σ H R => ta σ H fun vs H1 => ∃ a xs, vs = [.ref a] ∧ SqT K H1 a xs ∧ R (IteT K a) H1
theorem pi_enumT {X : Cx} {e : Expr} {ta : TA} {p pos tpos : Pos} {elts : List Expr} {kk : Nat} (hg : Gl X "enumerate") (hm : X.mg "enumerate" = none) (ha : PA X [e] ta) (hs : starEach [e] X.env = [(false, eval e X.env)] := by rfl) :
    PI X (.Tuple elts kk tpos) (.Call (.Name "enumerate" p) [e] [] pos) (iEnumT X.K ta) := by
  refine ⟨fun pins s σ H R I h => ?_⟩
  refine Call_ (ld_blt I hg hm boot_enumerate (PyProof.Rows.callWith_type1 (thn (ha.run pos pins s σ H _ I h) fun us s1 ⟨vs, H1, I1, r1, q1⟩ => ?_) hs rfl))
  obtain ⟨a, xs, ex, hq, q⟩ := q1
  subst ex
  cases r1 with
  | cons r rr =>
    cases rr
    cases r
    obtain ⟨its, rv, p', hz⟩ := I1.tuple hq
    have hal : a < s1.heap.objs.size := by obtain ⟨o, ho, _⟩ := p'; exact Heap.lt_size ho
    refine call_enum1 (begins_tuple a its.toArray) p' fun h' he hit hk => wpAny_pyIter_enum he ?_
    have I2 : L2.Inv X pins σ H1 { s1 with heap := h' } := I1.kept (t' := s1.toks) hk
    refine ⟨s1.heap.objs.size + 1, [s1.heap.objs.size + 1, s1.heap.objs.size], _, _, H1, rfl, I2, turn_enumT a (s1.heap.objs.size + 1) s1.heap.objs.size (Nat.ne_of_lt hal) (Nat.ne_of_lt (Nat.lt_succ_of_lt hal)), ⟨⟨.none, he⟩, ⟨_, hit, rfl, rfl⟩, Nat.succ_ne_self _⟩, fun b hb => ?_, q⟩
    have q' : b = s1.heap.objs.size + 1 ∨ b = s1.heap.objs.size := by simpa using hb
    have hle : s1.heap.objs.size ≤ b := by
      rcases q' with z | z
      · rw [z]; exact Nat.le_add_right _ _
      · rw [z]; exact Nat.le_refl _
    exact I1.fpOk hle (I1.hok.fresh hle)
theorem for_enumT {K : PySem.W.Frag} {a : Addr} {xs : List V} {tb : TS} {D : Ends} {σ : L2.St} {H : Hp} {i j : Nat} (Pv : Nat → L2.St → Hp → Prop) (h0 : Pv 0 σ H) (hl : ∀ k σ H, Pv k σ H → SqT K H a xs)
    (hs : ∀ k x σ H T, xs[k]? = some x → Pv k σ H → H T = none →
      tb { D with nx := Pv (k + 1), ct := Pv (k + 1), bk := D.nx } ((σ.set i (some (.int (k : Nat)))).set j (some x)) (upd H T (.tup [.int (k : Nat), x]))) (hd : ∀ σ H, Pv xs.length σ H → D.nx σ H) :
    ∃ W : Nat → Nat → L2.St → Hp → Prop, (∃ m, W 0 m σ H) ∧ ∀ k m σ H, W k m σ H →
      ((IteT K a).stop k H ∧ D.nx σ H) ∨ ((IteT K a).go k H ∧ ∃ N : L2.St → Hp → Prop, (∀ σ' H', N σ' H' → ∃ m', m' < m ∧ W (k + 1) m' σ' H') ∧ ∀ x H', (IteT K a).yld k H x H' →
        (gTup K 2 (gCons (gName i) (gCons (gName j) gNil))) x σ H' fun σ2 H2 => tb { D with nx := N, ct := N, bk := D.nx } σ2 H2) := by
  refine ⟨fun k m σ H => m = xs.length - k ∧ k ≤ xs.length ∧ Pv k σ H, ⟨xs.length, by simp, Nat.zero_le _, h0⟩, ?_⟩
  rintro k m σ H ⟨rfl, hk, p⟩
  have q := hl _ σ H p
  by_cases hlt : k < xs.length
  · refine .inr ⟨⟨xs, xs[k], q, by simp [hlt]⟩, Pv (k + 1), fun σ' H' p' => ⟨xs.length - (k + 1), by omega, rfl, hlt, p'⟩, fun v H' y => ?_⟩
    obtain ⟨T, x, rfl, nT, rfl, hx⟩ := y
    refine ⟨T, _, rfl, SqT.of upd_same, rfl, _, _, rfl, _, _, rfl, rfl, ?_⟩
    exact hs k x σ H T (hx xs q) p nT
  · have e : k = xs.length := by omega
    subst e
    exact .inl ⟨⟨xs, q, Nat.le_refl _⟩, hd σ H p⟩
end XL
set_option Elab.async false
set_option linter.all false
set_option maxRecDepth 100000
set_option maxHeartbeats 4000000
/-! XDeep: x in t, t.index(x), items data of any depth, t a list or a tuple. -/
namespace XL
open PySem PySem.Spec PyProof.Rows L2
section
variable {X : Cx} (K : PySem.W.Frag)
def rInX (K : PySem.W.Frag) (neg : Bool) : R2 := fun x y H Q => ∃ d ds, Dp K H x d ∧ (Dp K H y (.list ds) ∨ Dp K H y (.tuple ds)) ∧ SeqAt.shaped d = true ∧ PyData.canLayAll0 ds = true ∧ Q (.bl (if neg then !(ds.any fun z => PyData.eqv z d) else ds.any fun z => PyData.eqv z d)) H
theorem in_deepK (hu : X.A.units + 65 < cLine) (h : X.K = K := by rfl) : OpR X (compareOp .In) (rInX K false) := by
  subst h
  intro pins s σ H x y v u Q I rx ry h
  obtain ⟨d, ds, hd, he, sd, se, q⟩ := h
  obtain ⟨as, r1⟩ := Dp.reads I d x v hd rx
  rcases he with he | he
  · obtain ⟨bs, r2⟩ := Dp.reads I (.list ds) y u he ry
    exact SeqAt.in_list_reads r2 r1 se (SeqAt.canLay_of_shaped sd) (room_in_shaped sd hu) ⟨.bl _, H, I, rfl, q⟩
  · obtain ⟨bs, r2⟩ := Dp.reads I (.tuple ds) y u he ry
    exact SeqAt.in_tuple_reads r2 r1 se (SeqAt.canLay_of_shaped sd) (room_in_shaped sd hu) ⟨.bl _, H, I, rfl, q⟩
theorem notin_deepK (hu : X.A.units + 65 < cLine) (h : X.K = K := by rfl) : OpR X (compareOp .NotIn) (rInX K true) := by
  subst h
  intro pins s σ H x y v u Q I rx ry h
  obtain ⟨d, ds, hd, he, sd, se, q⟩ := h
  obtain ⟨as, r1⟩ := Dp.reads I d x v hd rx
  rcases he with he | he
  · obtain ⟨bs, r2⟩ := Dp.reads I (.list ds) y u he ry
    exact SeqAt.notIn_list_reads r2 r1 se (SeqAt.canLay_of_shaped sd) (room_in_shaped sd hu) ⟨.bl _, H, I, rfl, q⟩
  · obtain ⟨bs, r2⟩ := Dp.reads I (.tuple ds) y u he ry
    exact SeqAt.notIn_tuple_reads r2 r1 se (SeqAt.canLay_of_shaped sd) (room_in_shaped sd hu) ⟨.bl _, H, I, rfl, q⟩
/-- t.index(x), t a tuple: the first place of an equal one -/
def rIndexT (K : PySem.W.Frag) : V → List V → Hp → VK → Prop := fun x xs H Q => ∃ (a : Addr) (y : V) (d : PyData) (ds : List PyData) (j : Nat) (z : PyData), x = V.ref a ∧ xs = [y] ∧ Dp K H (V.ref a) (.tuple ds) ∧ Dp K H y d ∧
  PyData.canLayAll0 ds = true ∧ SeqAt.shaped d = true ∧ ds[j]? = some z ∧ PyData.eqv z d = true ∧ (∀ (m : Nat) (z' : PyData), m < j → ds[m]? = some z' → PyData.eqv z' d = false) ∧ Q (.int (j : Nat)) H
theorem mt_tindexK (hu : X.A.units + 65 < cLine) (h : X.K = K := by rfl) : MtR X "tuple.index" (rIndexT K) := by
  subst h
  intro pins s σ H x xs v us Q I rx rxs h
  obtain ⟨a, y, d, ds, j, z, rfl, rfl, hl, hy, hxs, sd, hz, hzj, hno, q⟩ := h
  cases rx
  cases rxs with
  | cons ry rt =>
    rename_i uy ut
    cases rt
    obtain ⟨bs, r1⟩ := Dp.reads I d y uy hy ry
    have hroom : X.A.units + 1 + min (PyData.depthAll ds) d.depth < cLine := room_in_shaped sd hu
    cases hl with
    | tup hs ha =>
      obtain ⟨its, rv, ⟨⟨cls, dd, data, sls⟩, ho, hc, n, hdt⟩, hlen⟩ := I.tuple hs
      simp only at hc hdt
      subst hc hdt
      obtain ⟨as, h4⟩ := Dp.readsAll I ds _ its ha rv
      have hn : its.length = ds.length := SeqAt.ReadsAll.length ds its as h4
      have hmap : its.map (SeqAt.readOf s.heap) = ds := SeqAt.readsAll_map ds its as hxs h4
      have hvl := rv.length
      obtain ⟨hjd, _⟩ := List.getElem?_eq_some_iff.mp hz
      have hjl : j < its.length := by omega
      have hj : j < its.toArray.size := by simpa using hjl
      have at_ : ∀ (m : Nat) (hm : m < its.toArray.size) (z' : PyData), ds[m]? = some z' → SeqAt.readOf s.heap its.toArray[m] = z' := by
        intro m hm z' hz'
        have hml : m < its.length := by simpa using hm
        rw [← hmap, List.getElem?_map, List.getElem?_eq_getElem hml] at hz'
        have e1 : SeqAt.readOf s.heap its[m] = z' := Option.some.inj (show some (SeqAt.readOf s.heap its[m]) = some z' from hz')
        simpa using e1
      refine call_meets PySem.F.slot_tuple_index ⟨_, ho, rfl⟩ PySem.F.entry_tuple_index (PySem.F.args_tuple_index_2 _ _)
        (TI.tuple_indexAt a its.toArray n dd sls uy (fun u => PyData.eqv (SeqAt.readOf s.heap u) d) j hj ?_ ?_) ⟨ho, SeqAt.items_eqAt (vs := its.toArray) (show ReadsAll s.heap its.toArray.toList ds as from h4) r1 hxs (SeqAt.canLay_of_shaped sd) hroom, ?_⟩
      · show PyData.eqv (SeqAt.readOf s.heap its.toArray[j]) d = true
        rw [at_ j hj z hz]
        exact hzj
      · intro m hm hmj
        have hmd : m < ds.length := by omega
        have hz' : ds[m]? = some ds[m] := List.getElem?_eq_getElem hmd
        show PyData.eqv (SeqAt.readOf s.heap its.toArray[m]) d = false
        rw [at_ m hm _ hz']
        exact hno m _ hmj hz'
      · exact ⟨.int (j : Nat), H, I.tok _, ⟨_, rfl⟩, q⟩
end
theorem u65 {k : Nat} {A : Around} (r : Room k A) : A.units + 65 < cLine := by have := r.un; omega
/-- xs[::-1] of a list -/
def tRev (K : PySem.W.Frag) (te : TE) : TE := fun σ H Q => te σ H fun x H1 => ∃ a xs, x = .ref a ∧ SqL K H1 a xs ∧ ∀ p, H1 p = none → Q (.ref p) (upd H1 p (.lst xs.reverse))
theorem pe_rev {X : Cx} {e m : Expr} {te : TE} {p2 pos : Pos} (he : PE X e te) (hm : PE X m (tC (.int (-1)))) : PE X (.Subscript e (.Slice none none (some m) p2) pos) (tRev X.K te) := by
  refine ⟨fun pins s σ H Q I h => ?_⟩
  refine Subscript_ (thn (he.run pins s σ H _ I h) fun v s1 ⟨x, H1, I1, r1, q1⟩ => ?_)
  refine wpAny_Slice (wpAny_evalPart_none (wpAny_evalPart_none (wpAny_evalPart_some (thn (hm.run pins s1 σ H1 (fun y H2 => y = .int (-1) ∧ H2 = H1) I1 ⟨rfl, rfl⟩) fun vm s3 ⟨y, H3, I3, r3, ey, eH⟩ => ?_))))
  subst ey eH
  obtain ⟨t, rfl⟩ := r3
  obtain ⟨a, xs, rfl, hx, q⟩ := q1
  cases r1
  have I4 : L2.Inv X pins σ H3 { s3 with heap := s3.heap.push { cls := .type "slice", data := .fields #[.none, .none, .int (-1) t] } } := I3.kept (t' := s3.toks) fun b ob q => Heap.get?_push_of_some _ q
  obtain ⟨its, r, ht, hz⟩ := I4.list hx
  have hlen := r.length
  show wpAny (model X.prog X.w) X.A (subscriptTail e (.Slice none none (some m) p2) (.ref a) (.ref s3.heap.objs.size)) (EP X pins σ Q) X.xe { s3 with heap := s3.heap.push { cls := .type "slice", data := .fields #[.none, .none, .int (-1) t] } }
  refine tail_any (ops := [.ref a, .ref s3.heap.objs.size]) ht.isList.typeIs slot_list_getitem.lookup ?_ (by with_unfolding_all rfl)
  refine wpAny_getItem_list_slice ht.isList (Heap.IsSliceOf.new ..) .none .none (.int (-1) t) (by decide) ?_ (by rw [List.size_toArray] <;> omega)
  rw [PySem.W.krv_pick]
  refine ⟨.ref _, _, I4.laid (t' := s3.toks) (o := .lst xs.reverse) (fun b ob q => Heap.get?_push_of_some _ q) (Nat.le_refl _) ?_, rfl, q _ (I4.hok.fresh (Nat.le_refl _))⟩
  exact ⟨by rw [List.length_reverse]; exact hz, _, 0, r.reverse, Heap.get?_push_size _ rfl⟩
theorem pe_revK {X : Cx} {e m : Expr} {te : TE} {p2 pos : Pos} (K : PySem.W.Frag) (he : PE X e te) (hm : PE X m (tC (.int (-1)))) (h : X.K = K := by rfl) : PE X (.Subscript e (.Slice none none (some m) p2) pos) (tRev K te) := h ▸ pe_rev he hm
theorem tst {b : Bool} {A B : Prop} (h1 : b = true → A) (h0 : b = false → B) : if b = true then A else B := by
  cases b
  · exact h0 rfl
  · exact h1 rfl
theorem sl_tupAK {X : Cx} (K : PySem.W.Frag) (h : X.K = K := by rfl) : SlR X (rSlA K) := h ▸ sl_tupA
/-! ### tuples whose object has no dict (so that their methods are reached) -/
def TupF (G : Hp) (a : Addr) (xs : List V) : Prop := ∃ o : Obj, o.dict = none ∧ G a = some (.frz o (.tup xs))
def Tu (G : Hp) (a : Addr) (xs : List V) : Prop := G a = some (.tup xs) ∨ TupF G a xs
theorem TupF.same {G G' : Hp} {a : Addr} {xs : List V} (e : Same G G') (h : TupF G a xs) : TupF G' a xs := let ⟨o, h1, h2⟩ := h; ⟨o, h1, e _ _ h2⟩
theorem Tu.same {G G' : Hp} {a : Addr} {xs : List V} (e : Same G G') (h : Tu G a xs) : Tu G' a xs := by
  rcases h with h | h
  · exact .inl (e _ _ h)
  · exact .inr (h.same e)
theorem Tu.sq {K : PySem.W.Frag} {H : Hp} {a : Addr} {xs : List V} (h : Tu H a xs) : SqT K H a xs := by
  rcases h with h | ⟨o, _, h⟩
  · exact .inl (.inl h)
  · exact .inl (.inr ⟨o, h⟩)
theorem Tu.ty {K : PySem.W.Frag} {H : Hp} {a : Addr} {xs : List V} (h : Tu H a xs) : TyX K H (.ref a) (.type "tuple") := by
  rcases h with h | ⟨o, _, h⟩
  · exact .base (.tup h)
  · exact .fTuple h
theorem TupF.tu {G : Hp} {a : Addr} {xs : List V} (h : TupF G a xs) : Tu G a xs := .inr h
section
variable {X : Cx} (K : PySem.W.Frag)
/-- tuple(xs) -/
def yTupF (K : PySem.W.Frag) : List V → Hp → VK → Prop := fun xs H Q => ∃ p ys, xs = [.ref p] ∧ ((SqL K H p ys ∧ ∀ l o, H l = none → o.dict = none → Q (.ref l) (upd H l (.frz o (.tup ys)))) ∨ (SqT K H p ys ∧ Q (.ref p) H))
theorem call_tupleFK (h : X.K = K := by rfl) : CallR X (.type "tuple") (yTupF K) := by
  subst h
  intro pins s σ H xs us Q I r h
  obtain ⟨p, ys, rfl, h⟩ := h
  obtain ⟨u, rfl, rx⟩ := vals1 r
  cases rx
  rcases h with ⟨hq, q⟩ | ⟨hq, q⟩
  · obtain ⟨its, r', pl, hz⟩ := I.list hq
    have hlen := r'.length
    refine call_tuple_list pl.isList (fun h' kp => ?_) (by simp only [List.size_toArray] <;> omega)
    have I1 : L2.Inv X pins σ H { s with heap := h' } := I.kept (t' := s.toks) kp
    have I2 : L2.Inv X pins σ (upd H h'.objs.size (.frz { cls := .type "tuple", data := .seq its.toArray } (.tup ys))) { s with heap := h'.push { cls := .type "tuple", data := .seq its.toArray } } :=
      I1.laid (t' := s.toks) (fun b o e => Heap.get?_push_of_some _ e) (Nat.le_refl _) (show ObjOk X.prog X.w _ _ _ (.frz { cls := .type "tuple", data := .seq its.toArray } (.tup ys)) from ⟨Heap.get?_push_size _ rfl, hz, its, r', IsTup.new _ _⟩)
    exact ⟨.ref h'.objs.size, _, I2, rfl, q _ _ (I1.hok.fresh (Nat.le_refl _)) rfl⟩
  · obtain ⟨its, r', pl, hz⟩ := I.tuple hq
    exact call_tuple_same pl ⟨.ref p, H, I, rfl, q⟩
/-- t.m(e, ..), t a tuple -/
def tTM (r : V → List V → Hp → VK → Prop) (to : TE) (t : TA) : TE := fun σ H Q => to σ H fun x H1 => (∃ a xs, x = .ref a ∧ TupF H1 a xs) ∧ t σ H1 fun vs H2 => r x vs H2 Q
theorem pe_tm {o e : Expr} {es : List Expr} {to : TE} {t : TA} {id : String} {name : Str} {apos cpos : Pos} {r : V → List V → Hp → VK → Prop} (slot : Slot "tuple" name id) (hty : typeOf (.builtin id) = pure (.type "method_descriptor")) (hm : MtR X id r) (ho : PE X o to) (ha : PA X (e :: es) t)
    (hbase : attributeBase o name X.env (eval o X.env) = eval o X.env := by rfl)
    (hfew : ((backTo cpos (starEach (e :: es) X.env)).all (fun x => !x.1) && (backToKw cpos (keywordEach [] X.env)).all (fun x => x.1.isSome)
      && decide ((e :: es).length + ([] : List Keyword).length + (if ([] : List Keyword).isEmpty then 0 else 1) < 30)) = true := by rfl)
    (hline : (apos.endLine == cpos.line) = true := by rfl) (hs : starEach (e :: es) X.env = (false, eval e X.env) :: starEach es X.env := by rfl) (hplain : (backTo cpos (starEach es X.env)).any (·.1) = false := by rfl) :
    PE X (.Call (.Attribute o name apos) (e :: es) [] cpos) (tTM r to t) := by
  refine ⟨fun pins s σ H Q I h => ?_⟩
  refine wpAny_Call_method_late hbase hfew hline rfl (thn (ho.run pins s σ H _ I h) fun v s1 ⟨x, H1, I1, r1, ty, q1⟩ => ?_)
  obtain ⟨a, xs, rfl, ob, hd, ha'⟩ := ty
  cases r1
  obtain ⟨h1, _, _, _, h2⟩ := I1.hok _ _ ha'
  refine ⟨"tuple", id, PySem.F.plainAttrs_tuple, slot, hty, ⟨ob, h1, ?_⟩, fun b e => ?_, ?_⟩
  · obtain ⟨ob', e1, e2, _⟩ := h2
    rw [h1] at e1
    rw [Option.some.inj e1]
    exact e2
  · cases e
    exact ⟨ob, h1, hd⟩
  have hA := ha.run cpos pins s1 σ H1 _ I1 q1
  rw [hs] at hA ⊢
  refine Calls.callWith_builtin (by show (false || (backTo cpos (starEach es X.env)).any (·.1)) = false; rw [hplain] <;> rfl) (Calls.evalArgs_plain ?_)
  exact thn hA fun us s2 ⟨vs, H2, I2, r2, q2⟩ => hm pins s2 σ H2 (V.ref a) vs (.ref a) us Q I2 rfl r2 q2
end
/-- t[lo:hi]: the whole of it is t itself -/
def rSlF (K : PySem.W.Frag) : V → Option Int → Option Int → Hp → VK → Prop := fun x lo hi H Q => ∃ a xs, x = .ref a ∧ SqT K H a xs ∧
  (HT.sIx xs.length 0 lo = 0 ∧ HT.sIx xs.length xs.length hi = xs.length → Q (.ref a) H) ∧ (¬ (HT.sIx xs.length 0 lo = 0 ∧ HT.sIx xs.length xs.length hi = xs.length) → ∀ p ob, H p = none → ob.dict = none → Q (.ref p) (upd H p (.frz ob (.tup (cutV xs lo hi)))))
theorem sl_tupFK {X : Cx} (K : PySem.W.Frag) (h : X.K = K := by rfl) : SlR X (rSlF K) := by
  subst h
  intro pins s σ H x v vl vu lo hi sl Q I rx hs pl pu h
  obtain ⟨a, xs, rfl, hx, q1, q2⟩ := h
  by_cases hw : HT.sIx xs.length 0 lo = 0 ∧ HT.sIx xs.length xs.length hi = xs.length
  · exact sl_tupA pins s σ H _ v vl vu lo hi sl Q I rx hs pl pu ⟨a, xs, rfl, hx, q1, fun z => absurd hw z⟩
  · cases rx
    obtain ⟨its, r, ht, hz⟩ := I.tuple hx
    have hlen : its.toArray.size = xs.length := by rw [List.size_toArray]; exact r.length.symm
    refine ⟨"tuple", _, PyProof.Rows.slot_tuple_getitem.lookup, ht.typeIs, ?_⟩
    refine HT.getItem_tuple_cut ht hs pl pu (by rw [hlen]; exact hw) ?_ (by rw [hlen]; exact hz)
    rw [hlen]
    refine ⟨.ref s.heap.objs.size, _, I.laid (t' := s.toks) (o := .frz { cls := .type "tuple", data := .seq (List.take (HT.sIx xs.length xs.length hi - HT.sIx xs.length 0 lo) (List.drop (HT.sIx xs.length 0 lo) its.toArray.toList)).toArray } (.tup (cutV xs lo hi))) (fun b ob q => Heap.get?_push_of_some _ q) (Nat.le_refl _) ?_, rfl, q2 hw _ _ (I.hok.fresh (Nat.le_refl _)) ?_⟩
    · exact ⟨Heap.get?_push_size _ rfl, Nat.le_trans (cutV_length xs lo hi) hz, _, (r.drop (HT.sIx xs.length 0 lo)).take (HT.sIx xs.length xs.length hi - HT.sIx xs.length 0 lo), IsTup.new _ _⟩
    · rfl
theorem Sep.sub {G H : Hp} {M M' : List (Addr × HO)} (S : Sep G M H) (h : M'.Sublist M) : Sep G M' H := ⟨S.1, fun p hp => S.2.1 p (h.subset hp), List.Nodup.sublist (h.map _) S.2.2⟩
theorem Sep.rot2 {G H : Hp} {a b c d : Addr × HO} {M : List (Addr × HO)} (S : Sep G (a :: b :: c :: d :: M) H) : Sep G (c :: d :: a :: b :: M) H := S.perm (List.perm_append_comm_assoc [a, b] [c, d] M)
theorem Sep.no3 {G H : Hp} {a b c : Addr × HO} {M : List (Addr × HO)} (S : Sep G (a :: b :: c :: M) H) : Sep G (a :: b :: M) H := S.sub ((List.sublist_cons_self c M).cons₂ b |>.cons₂ a)
/-! ### lists of ints, of pairs of ints, as data -/
def prd (p : Int × Int) : PyData := .tuple [.int p.1, .int p.2]
theorem prd_can (p : Int × Int) : (prd p).canLay0 = true := by simp [prd, PyData.canLay0, PyData.canLayAll0]
theorem prd_shaped (p : Int × Int) : SeqAt.shaped (prd p) = true := by
  unfold SeqAt.shaped
  rw [prd_can]
  simp [prd, PyData.depth, PyData.depthAll]
theorem prds_can : ∀ ps : List (Int × Int), PyData.canLayAll0 (ps.map prd) = true
  | [] => by simp [PyData.canLayAll0]
  | p :: r => by simp [PyData.canLayAll0, prd_can p, prds_can r]
theorem ints_can : ∀ ns : List Int, PyData.canLayAll0 (ns.map PyData.int) = true
  | [] => by simp [PyData.canLayAll0]
  | n :: r => by simp [PyData.canLayAll0, PyData.canLay0, ints_can r]
theorem prd_eqv (p q : Int × Int) : PyData.eqv (prd p) (prd q) = decide (p = q) := by
  obtain ⟨a, b⟩ := p
  obtain ⟨c, d⟩ := q
  simp only [prd, PyData.eqv, PyData.eqvAll, Bool.and_true]
  by_cases h1 : a = c <;> by_cases h2 : b = d <;> simp [h1, h2]
theorem int_shaped (n : Int) : SeqAt.shaped (.int n) = true := by simp [SeqAt.shaped, PyData.canLay0, PyData.depth]
theorem ints_dp {K : PySem.W.Frag} {H : Hp} : ∀ ns : List Int, DpAll K H (ns.map V.int) (ns.map PyData.int)
  | [] => .nil
  | n :: r => .cons (.int n) (ints_dp r)
theorem any_ints (n : Int) (ns : List Int) : ((ns.map PyData.int).any fun z => PyData.eqv z (.int n)) = decide (n ∈ ns) := by
  induction ns with
  | nil => rfl
  | cons m r ih =>
    rw [List.map_cons, List.any_cons, ih]
    show ((m == n) || decide (n ∈ r)) = decide (n ∈ m :: r)
    by_cases e : n = m
    · subst e; simp
    · have e2 : ¬ m = n := fun q => e q.symm
      simp [e, e2]
theorem any_prds (p : Int × Int) (ps : List (Int × Int)) : ((ps.map prd).any fun z => PyData.eqv z (prd p)) = decide (p ∈ ps) := by
  induction ps with
  | nil => rfl
  | cons q r ih =>
    rw [List.map_cons, List.any_cons, ih, prd_eqv]
    by_cases e : p = q
    · subst e; simp
    · have e2 : ¬ q = p := fun h => e h.symm
      simp [e, e2]
end XL
set_option Elab.async false
set_option linter.all false
set_option maxRecDepth 100000
set_option maxHeartbeats 4000000
/-! XOwn: o[i], o[i] = v by own methods. -/
namespace XL
open PySem PySem.Spec PyProof.Rows L2
section
variable {X : Cx} {CX : CXT} {C f : Addr} {fd : FuncData} {ps : List Str} {sp : Sp} {E : XK} {n : Nat} {o i : Expr} {to ti : TE} {pos : Pos}
def yIxO (C : Addr) (sp : Sp) (E : XK) : R2 := fun x y H Q => ∃ a dx fs, x = .ref a ∧ H a = some (.ins C dx fs) ∧ sp [.ref a, y] H Q E
theorem pe_ixO (ho : PE X o to) (hi : PE X i ti) (F : FnOk X.prog X.w X.K X.mg X.base CX n f fd ps sp) (hs : PySem.W.findIn X.K (.ref C) "__getitem__" = some (some (.ref f))) (hf : PySem.W.fnIn X.K f = true) (hfn : PySem.W.isFn X.K (.ref f) = true)
    (hb : Binds X.K fd ps []) (hx : Passes CX X E) (hr : Room (n + 1) X.A) (hsl : ∀ x v, subscripted i true (.ref x) v = runValue (.builtin "lifetime.subscript" ⟨[.ref x, v], []⟩) := by intro _ _; with_unfolding_all rfl) :
    PE X (.Subscript o i pos) (tOp (yIxO C sp E) to ti) := by
  refine ⟨fun pins s σ H Q I h => ?_⟩
  refine Subscript_ (thn (ho.run pins s σ H _ I h) fun v s1 ⟨x, H1, I1, r1, q1⟩ => thn (hi.run pins s1 σ H1 _ I1 q1) fun u s2 ⟨y, H2, I2, r2, q2⟩ => ?_)
  obtain ⟨a, dx, fs, rfl, ha, hsp⟩ := q2
  cases r1
  obtain ⟨mA, J, _⟩ := ins_get I2.hok ha
  obtain ⟨od, J, _⟩ := J.look
  obtain ⟨m, hF⟩ := I2.fr
  refine PySem.W.sub_K hF I2.ok.mod.kin J hs hf hfn ?_ (hsl _ _)
  have hl : ([Value.ref a, u] ++ []).length = ps.length := F.len _ _ _ _ hsp
  refine wpAny_call (codeAny_mono (F.run X.A.in1 X.stack s2 H2 ⟨[.ref a, u], []⟩ [.ref a, u] [.ref a, y] Q E hr.in1 I2.env0.in1 (hb s2 [.ref a, u] I2.kIn hl) (.cons rfl (.cons r2 .nil)) hsp) fun r s' hq => ?_)
  cases r with
  | error e => exact hx pins σ H2 s2 e s' I2 hq
  | ok fl =>
    cases fl with
    | ret u => exact I2.after hq
    | next => exact False.elim hq
    | brk => exact False.elim hq
    | cont => exact False.elim hq
def yStO (C : Addr) (sp : Sp) (E : XK) : TSet := fun x y v H Q => ∃ a dx fs, x = .ref a ∧ H a = some (.ins C dx fs) ∧ sp [.ref a, y, v] H (fun _ H' => Q H') E
theorem set_own (F : FnOk X.prog X.w X.K X.mg X.base CX n f fd ps sp) (hq : PySem.W.noSeq X.K C = true) (hs : PySem.W.findIn X.K (.ref C) "__setitem__" = some (some (.ref f))) (hfn : PySem.W.isFn X.K (.ref f) = true)
    (hb : Binds X.K fd ps []) (hx : Passes CX X E) (hr : Room n X.A) : PSet X (yStO C sp E) := by
  intro pins s σ H x y v xv yv vv Q I rx ry rv h
  obtain ⟨a, dx, fs, rfl, ha, hsp⟩ := h
  cases rx
  obtain ⟨mA, J, _⟩ := ins_get I.hok ha
  obtain ⟨od, J, _⟩ := J.look
  obtain ⟨m, hF⟩ := I.fr
  refine PySem.W.ksp_setItem hF I.ok.mod.kin J hq hs hfn ?_
  refine wpAny_mono (run_fn (us := [.ref a, yv, vv]) (vs := [.ref a, y, v]) (dvs := []) F hr hb .nil hx I (.cons rfl (.cons ry (.cons rv .nil))) hsp) (fun r s' q => ?_) fun _ _ e => e
  obtain ⟨z, H', I', rz, q⟩ := q
  exact ⟨H', I', q⟩
end
end XL
set_option Elab.async false
set_option linter.all false
set_option maxRecDepth 100000
set_option maxHeartbeats 4000000
/-! XTup: tuples made by a display or by +, as objects without a dict. -/
namespace XL
open PySem PySem.Spec PyProof.Rows L2
section
variable {X : Cx} {es : List Expr} {t : TA} {pos : Pos}
def tTupF (t : TA) : TE := fun σ H Q => t σ H fun xs H1 => xs.length ≤ sizeLine ∧ ∀ p ob, H1 p = none → ob.dict = none → Q (.ref p) (upd H1 p (.frz ob (.tup xs)))
theorem pe_tupF {x1} (h : PA X es t) : PE X (.Tuple es x1 pos) (tTupF t) := by
  refine ⟨fun pins s σ H Q I hq => ?_⟩
  refine wpAny_Tuple_spliced (thn (h.run pos pins s σ H _ I hq) fun us s1 ⟨xs, H1, I1, r, z, q⟩ => ⟨by rw [← r.length]; exact z, ?_⟩)
  have hf : H1 s1.heap.objs.size = none := I1.hok.fresh (Nat.le_refl _)
  refine ⟨.ref s1.heap.objs.size, _, I1.laid (t' := s1.toks) (o := .frz { cls := .type "tuple", data := .seq us.toArray } (.tup xs)) (fun b u e => Heap.get?_push_of_some _ e) (Nat.le_refl _) ?_, rfl, q _ _ hf rfl⟩
  exact ⟨Heap.get?_push_size _ rfl, z, us, r, ⟨_, Heap.get?_push_size _ rfl, rfl, _, rfl⟩⟩
def rCatF (K : PySem.W.Frag) : R2 := fun x y H Q => ∃ a b xs ys, x = .ref a ∧ y = .ref b ∧ SqT K H a xs ∧ SqT K H b ys ∧ xs.length + ys.length ≤ sizeLine ∧
  (xs = [] → Q (.ref b) H) ∧ (xs ≠ [] → ys = [] → Q (.ref a) H) ∧ (xs ≠ [] → ys ≠ [] → ∀ p ob, H p = none → ob.dict = none → Q (.ref p) (upd H p (.frz ob (.tup (xs ++ ys)))))
theorem op_catFK (K : PySem.W.Frag) (h : X.K = K := by rfl) : OpR X (binaryOp .Add) (rCatF K) := by
  subst h
  intro pins s σ H x y v u Q I rx ry h
  obtain ⟨a, b, xs, ys, rfl, rfl, ha, hb, hz, q0, q1, q2⟩ := h
  by_cases hx : xs = []
  · exact op_catA pins s σ H _ _ v u Q I rx ry ⟨a, b, xs, ys, rfl, rfl, ha, hb, hz, q0, fun z => absurd hx z, fun z => absurd hx z⟩
  · cases rx
    cases ry
    obtain ⟨its, r1, p1, _⟩ := I.tuple ha
    obtain ⟨its2, r2, p2, _⟩ := I.tuple hb
    refine HT.cat_tup p1 p2 (fun z => hx (r1.nil_iff.mp z)) (fun z => ⟨.ref a, H, I, rfl, q1 hx (r2.nil_iff.mp z)⟩) (fun z => ?_) (by rw [← r1.length, ← r2.length]; exact hz)
    refine ⟨.ref s.heap.objs.size, _, I.laid (t' := s.toks) (o := .frz { cls := .type "tuple", data := .seq (its ++ its2).toArray } (.tup (xs ++ ys))) (fun b ob q => Heap.get?_push_of_some _ q) (Nat.le_refl _) ?_, rfl, q2 hx (fun w => z (r2.nil_iff.mpr w)) _ _ (I.hok.fresh (Nat.le_refl _)) rfl⟩
    exact ⟨Heap.get?_push_size _ rfl, by rw [List.length_append]; exact hz, _, r1.append r2, IsTup.new _ _⟩
end
section
variable {K : PySem.W.Frag} {a : Addr} {xs : List V} {Qd : Hp → Prop} {B : V → Hp → (Hp → Prop) → Prop} {H0 : Hp}
/-- a clause of a comprehension over a list -/
theorem loopL (Pv : Nat → Hp → Prop) (h0 : Pv 0 H0) (hl : ∀ k H, Pv k H → SqL K H a xs) (hs : ∀ k x H, xs[k]? = some x → Pv k H → B x H (Pv (k + 1))) (hd : ∀ H, Pv xs.length H → Qd H) :
    ∃ W : Nat → Nat → Hp → Prop, (∃ m, W 0 m H0) ∧ ∀ i m H, W i m H → ((Itl K a).stop i H ∧ Qd H) ∨ ((Itl K a).go i H ∧ ∃ Nx : Hp → Prop, (∀ H', Nx H' → ∃ m', m' < m ∧ W (i + 1) m' H') ∧ ∀ x H', (Itl K a).yld i H x H' → B x H' Nx) := by
  refine ⟨fun i m H => m = xs.length - i ∧ i ≤ xs.length ∧ Pv i H, ⟨xs.length, by simp, Nat.zero_le _, h0⟩, ?_⟩
  rintro i m H ⟨rfl, hi, p⟩
  have q := hl i H p
  by_cases hlt : i < xs.length
  · refine .inr ⟨⟨xs, xs[i], q, by simp [hlt]⟩, Pv (i + 1), fun H' p' => ⟨xs.length - (i + 1), by omega, rfl, hlt, p'⟩, fun x H' y => ?_⟩
    obtain ⟨e, y⟩ := y
    subst e
    exact hs i x _ (y xs q) p
  · have e : i = xs.length := by omega
    subst e
    exact .inl ⟨⟨xs, q, Nat.le_refl _⟩, hd H p⟩
/-- a clause of a comprehension over a range -/
theorem loopR {lo : Int} {n : Nat} (Pv : Nat → Hp → Prop) (h0 : Pv 0 H0) (hs : ∀ k H, k < n → Pv k H → B (.int (lo + k)) H (Pv (k + 1))) (hd : ∀ H, Pv n H → Qd H) :
    ∃ W : Nat → Nat → Hp → Prop, (∃ m, W 0 m H0) ∧ ∀ i m H, W i m H → ((Itr lo n).stop i H ∧ Qd H) ∨ ((Itr lo n).go i H ∧ ∃ Nx : Hp → Prop, (∀ H', Nx H' → ∃ m', m' < m ∧ W (i + 1) m' H') ∧ ∀ x H', (Itr lo n).yld i H x H' → B x H' Nx) := by
  refine ⟨fun i m H => m = n - i ∧ i ≤ n ∧ Pv i H, ⟨n, by simp, Nat.zero_le _, h0⟩, ?_⟩
  rintro i m H ⟨rfl, hi, p⟩
  by_cases hlt : i < n
  · refine .inr ⟨hlt, Pv (i + 1), fun H' p' => ⟨n - (i + 1), by omega, rfl, hlt, p'⟩, fun x H' y => ?_⟩
    obtain ⟨e, y⟩ := y
    subst e y
    exact hs i _ hlt p
  · have e : i = n := by omega
    subst e
    exact .inl ⟨Nat.le_refl _, hd H p⟩
/-- row + (item,) -/
theorem cat_one {G H : Hp} {M : List (Addr × HO)} {r : Addr} {n : List Int} {i : Int} {Q : VK} (S : Sep G M H) (hr : TupF G r (n.map V.int)) (hl : n.length ≤ 1000)
    (q : ∀ (p : Addr) (G' H' : Hp), Same G G' → Sep G' M H' → TupF G' p ((n ++ [i]).map V.int) → Q (.ref p) H') :
    [V.int i].length ≤ sizeLine ∧ ∀ p ob, H p = none → ob.dict = none → rCatF K (.ref r) (.ref p) (upd H p (.frz ob (.tup [.int i]))) Q := by
  refine ⟨sz, fun p ob np hob => ?_⟩
  have S1 := S.newG (o := .frz ob (.tup [.int i])) np
  have s1 := S.grow (o := .frz ob (.tup [.int i])) np
  have h1 : TupF (upd G p (.frz ob (.tup [.int i]))) p [.int i] := ⟨ob, hob, upd_same⟩
  refine ⟨r, p, n.map V.int, [.int i], rfl, rfl, ((hr.same s1).same S1.1).tu.sq, (h1.same S1.1).tu.sq, small (by rw [List.length_map]; simp; omega), fun e => ?_, fun _ e => (nomatch e), fun _ _ p2 ob2 np2 hob2 => ?_⟩
  · have e2 : n = [] := List.map_eq_nil_iff.mp e
    subst e2
    exact q p _ _ s1 S1 h1
  · have e3 : n.map V.int ++ [V.int i] = (n ++ [i]).map V.int := by rw [List.map_append]; rfl
    rw [e3]
    exact q p2 _ _ (s1.trans (S1.grow np2)) (S1.newG np2) ⟨ob2, hob2, upd_same⟩
end
end XL
set_option Elab.async false
set_option linter.all false
set_option maxRecDepth 100000
set_option maxHeartbeats 4000000
/-! XExc: an error of the program's own, class E(ScreenError): __init__(self, x): super().__init__(f'..{x!r}'); self.x = x: made, raised, caught. -/
namespace PySem
namespace XExc
open PySem.W PySem.Calls PyProof.Rows PySem.HandSPX
/-! ### the text of __init__ -/
def iA (fld : Str) (p1 p2 : Pos) : Arguments := { posonlyargs := [], args := [{ arg := "self", annotation := none, pos := p1 }, { arg := fld, annotation := none, pos := p2 }], vararg := none, kwonlyargs := [], kw_defaults := [], kwarg := none, defaults := [] }
structure Ps where
  a : Pos
  b : Pos
  c : Pos
  d : Pos
  e : Pos
  f : Pos
  g : Pos
  h : Pos
  i : Pos
  j : Pos
  k : Pos
  l : Pos
  m : Pos
  cv : Int
  cp : cv = 114 ∨ cv = -1
def iSup (q : Ps) : Expr := .Call (.Name "super" q.a) [] [] q.b
def iArg (fld : Str) (msg : Str) (q : Ps) : Expr := .JoinedStr [.Constant (.str msg) 0 q.d, .FormattedValue (.Name fld q.e) q.cv none q.f] q.g
def iCall (fld : Str) (msg : Str) (q : Ps) : Expr := .Call (.Attribute (iSup q) "__init__" q.c) [iArg fld msg q] [] q.h
def iB (fld : Str) (msg : Str) (q : Ps) : List Stmt := [.Expr (iCall fld msg q) q.i, .Assign [.Attribute (.Name "self" q.j) fld q.k] (.Name fld q.l) q.m]
/-- how the call is evaluated (the positions decide nothing here) -/
def Evals (fld msg : Str) (q : Ps) : Prop := ∃ pl : Env → Sem Bool, ∀ env : Env, eval (iCall fld msg q) env = (do
  let ov ← attributeBase (iSup q) "__init__" env (eval (iSup q) env)
  standAt q.c.atName
  let (f, first) ← holding [ov] (getMethod ov "__init__" (pl env))
  callWith q.h f first (backTo q.h (starEach [iArg fld msg q] env)) [])
def iN (fld : Str) : List (Str × NameKind) := [(PySem.Str.ofString "self", .local), (fld, .local), (PySem.Str.ofString "__class__", .free), (PySem.Str.ofString "super", .globalImplicit)]
def iS (fld : Str) : Scope := { kind := .function, names := iN fld, isGenerator := false, isCoroutine := false, more := [] }
/-- what the written part says of the class at C and of its __init__ at fI -/
structure ExTxt (P : Program) (K : Frag) (mg : Str → Option Value) (nm fld msg : Str) (C fI : Addr) : Prop where
  gC : mg nm = some (.ref C)
  cls : ∃ nm q N bs bm sn sub ab col dd k0 k1 k2 k3 k5, K.lookup C = some (excClassObj nm q C N bs bm true sn sub ab col dd k0 k1 k2 k3 k5 "ValueError.__new__") ∧ refsVE bm = true
  sa : findIn K (.ref C) "__setattr__" = some (some (.builtin "object.__setattr__"))
  ga : findIn K (.ref C) "__getattribute__" = some (some (.builtin "BaseException.__getattribute__"))
  gg : findIn K (.ref C) "__getattr__" = some none
  noN : findIn K (.ref C) fld = some none
  iC : findIn K (.ref C) "__init__" = some (some (.ref fI))
  tC : typeIn K (.ref fI) = some (.type "function")
  kC : keepIn K (.ref C) = true
  exC : subIn K (.ref C) (.type "BaseException") = some true
  tyC : typeIn K (.ref C) = some (.type "type")
  hdC : hasDictIn K C = true
  fn : ∃ (oc kV doc pm ct : Value) (od an : Option Addr) (osl : Array (Option Value)) (qual : Str) (cda cc : Addr) (p1 p2 : Pos) (q : Ps) (vs : Array Value) (file : Str) (tf : Tok) (ccl cl : Value) (cdd cld : Option Addr) (ccs csl : Array (Option Value)),
    K.lookup fI = some ⟨oc, od, .func (ksFn "__init__" qual (iA fld p1 p2) (iB fld msg q) (iS fld) .none kV doc pm an (.ref cda) ct cc), osl⟩ ∧ codeIn K (.ref cda) qual = true ∧ K.lookup cda = some ⟨ccl, cdd, .fields vs, ccs⟩ ∧ vs[2]? = some (.str file tf) ∧
    ((P.main.file : Str) == file) = true ∧ K.lookup cc = some ⟨cl, cld, .cell (some (.ref C)), csl⟩ ∧ Evals fld msg q ∧
    ∀ x v : Value, bindArgs (ksFn "__init__" qual (iA fld p1 p2) (iB fld msg q) (iS fld) .none kV doc pm an (.ref cda) ct cc) ⟨[x, v], []⟩ = pure [(("self" : Str), x), (fld, v)]
  sup : ks_superIn K C C "__init__" = some (some (.builtin "ValueError.__init__"))
  subV : subIn K (.ref C) (.type "ValueError") = some true
  mroS : mroIn K C (.ref C) = some true
  opq : nsIn K cStatics "thirdparty.any" = some none
  htop : (P.main.scope.names.lookup ("super" : Str)).isSome = false
  hsup : mg "super" = none
  f1 : fld ≠ "self"
  f2 : fld ≠ "__class__"
  f3 : fld ≠ "super"
  f4 : (fld == ("__debug__" : Str)) = false
  ml : msg.length ≤ 1000
/-- where the program stands -/
def PF (P : Program) (fl : Str) : Prop := ((P.main.file : Str) == fl) = true ∧ (P.main.scope.names.lookup ("super" : Str)).isSome = false
/-- what can be told in the message -/
def Rp (v : Value) : Prop := (∃ (y : Str) (t : Tok), v = .str y t ∧ (reprText y).length ≤ 100000) ∨ ∃ (i : Int) (t : Tok), v = .int i t ∧ i.natAbs.log2 < 1920
structure InitEnd (h h' : Heap) (x C dx : Addr) (fld : Str) (v : Value) : Prop where
  keep : ∀ b o, b ≠ x → h.get? b = some o → h'.get? b = some o
  obj : ∃ t1 : Addr, h'.get? x = some { cls := .ref C, dict := some dx, data := .fields #[.ref t1, .none, .none, .none, .bool false, .none] }
  dbig : h.objs.size ≤ dx
  dne : dx ≠ x
  ns : h'.Ns1 dx (fun y => if y = fld then some v else none)
structure OwnMade (h h' : Heap) (e C d : Addr) (fld : Str) (v : Value) : Prop where
  keep : ∀ b o, h.get? b = some o → h'.get? b = some o
  new : h.objs.size ≤ e
  obj : ∃ oe vs, h'.get? e = some oe ∧ oe.cls = .ref C ∧ oe.dict = some d ∧ oe.data = .fields vs ∧ vs[1]? = some .none
  dbig : h.objs.size ≤ d
  dne : d ≠ e
  ns : h'.Ns1 d (fun y => if y = fld then some v else none)
section
variable {prog : Program} {w : World} {A : Around} {E : Value → Shared → Prop} {h : Heap} {g : Array GenState} {d : Drawn} {t : Nat} {os : OsState}
variable {nm q : Str} {C N : Addr} {bs bm : List Value} {hdct : Bool} {sn : List Str} {sub : List Value} {ab : Bool} {col : Option Bool} {dd : Option Addr} {k0 k1 k2 k3 k5 : Option Value}
theorem call_mw {u e t0 : Addr} {rest : List Value} {Q : Value → Shared → Prop}
    (hC : h.get? C = some (excClassObj nm q C N bs bm hdct sn sub ab col dd k0 k1 k2 k3 k5 "ValueError.__new__")) (he : h.get? e = some (excO C t0)) (hu : h.get? u = some (kxs_mw "ValueError.__init__" e)) (hrest : rest.length ≤ sizeLine)
    (hq : ∀ h' t1, (∀ b o, b ≠ e → h.get? b = some o → h'.get? b = some o) → h.objs.size ≤ h'.objs.size → h'.get? e = some (excO C t1) → Q .none ⟨h', g, d, t, os⟩) :
    wpAny (model prog w) A (call (.ref u) rest) Q E ⟨h, g, d, t, os⟩ := by
  refine wpAny_call (codeAny_of_tree ?_)
  show wpAny _ A.in1 (callAny (.ref u) ⟨rest, []⟩) _ _ _
  simp only [callAny]
  refine wpAny_bind (wpAny_load hu ?_)
  simp only [kxs_mw, show (Value.type "method-wrapper" == Value.type "method" || Value.type "method-wrapper" == Value.type "builtin_function_or_method" || Value.type "method-wrapper" == Value.type "method-wrapper") = true by decide, if_true]
  refine W.KFB.if_so (by decide) ?_
  refine wpAny_bind (check_bound_init F.excBase_ValueError.toExcCallFacts hC he rfl ?_)
  refine wpAny_bind (wpAny_pure (wpAny_pure ?_))
  refine ⟨plainId_quiet F.excBase_ValueError.init.plain _, codeAny_builtin F.excBase_ValueError.initEntry ?_⟩
  rw [Around.under_plainId F.excBase_ValueError.init.plain _]
  wp_walk
  refine hq _ h.objs.size (fun b o hb ho => ?_) ?_ ?_
  · rw [Heap.get?_update_other _ _ (Ne.symm hb)]
    exact Heap.get?_push_of_some _ ho
  · simp [Heap.size_push]
  · rw [Heap.get?_update_self _ (Heap.get?_push_of_some _ he) rfl]
    rfl
end
section
variable {prog : Program} {w : World} {A : Around} {E : Value → Shared → Prop} {R : Result → Shared → Prop} {s : Shared} {K : Frag} {mg mb : Str → Option Value} {nm fld msg : Str} {C fI : Addr}
theorem one_size (v : Value) : [v].length ≤ sizeLine := by
  rw [sizeLine_eq]
  exact (by decide : 1 ≤ 16777216)
theorem reprChar_ge (q c : Nat) : 1 ≤ (Builtin.Str.reprChar q c).length := by
  unfold Builtin.Str.reprChar
  dsimp only
  repeat' split
  all_goals simp only [List.length_append, List.length_cons, List.length_nil]
  all_goals omega
theorem foldl_repr_ge1 (q : Nat) : ∀ (l : List Nat) (acc : Array Nat), acc.size + l.length ≤ (l.foldl (fun out c => out ++ (Builtin.Str.reprChar q c).toArray) acc).size
  | [], acc => Nat.le_refl _
  | c :: r, acc => by
    have ih := foldl_repr_ge1 q r (acc ++ (Builtin.Str.reprChar q c).toArray)
    have hc := reprChar_ge q c
    simp only [List.foldl_cons, List.length_cons]
    simp only [Array.size_append, List.size_toArray] at ih
    omega
theorem reprText_ge (x : Str) : x.length ≤ (reprText x).length := by
  unfold reprText
  show x.length ≤ ((x.cps.foldl (fun out c => out ++ (Builtin.Str.reprChar (reprQuote x) c).toArray) #[reprQuote x]).push (reprQuote x)).size
  rw [Array.size_push, ← Array.foldl_toList]
  have := foldl_repr_ge1 (reprQuote x) x.cps.toList #[reprQuote x]
  have e : x.cps.toList.length = x.length := by simp [Str.length]
  rw [e] at this
  omega
/-- f'..{v!r}' -/
theorem told_ok {env : Env} {q : Ps} {m : Str → Option Value} {v : Value} {Q : Value → Shared → Prop} (hn : s.heap.Ns env.locals m) (hv : m fld = some v) (hr : Rp v) (hml : msg.length ≤ 1000) (hk : env.scope.kind = .function) (hl : env.kindOf fld = some .local) (hd : (fld == ("__debug__" : Str)) = false)
    (h : ∀ u tk, Q u { s with toks := tk }) : wpAny (model prog w) A (eval (iArg fld msg q) env) Q E s := by
  unfold iArg
  have sm : ∀ n : Nat, n ≤ 200000 → n ≤ sizeLine := fun n hn => Nat.le_trans hn (by decide)
  rcases q.cp with ecv | ecv
  · rw [ecv]
    refine wpAny_JoinedStr ?_
    have e0 : evalEach [Expr.Constant (.str msg) 0 q.d, .FormattedValue (.Name fld q.e) 114 none q.f] env = [eval (.Constant (.str msg) 0 q.d) env, eval (.FormattedValue (.Name fld q.e) 114 none q.f) env] := by first | rfl | simp [evalEach]
    rw [e0]
    refine Calls.Constant_str ⟨msg, _, rfl, ?_, ?_⟩
    · rw [Str.length_append]
      exact sm _ (by show 0 + msg.length ≤ _; omega)
    refine wpAny_FormattedValue_repr (ESX.ldL hn hv ?_ hk hl hd)
    rcases hr with ⟨y, t, rfl, hz⟩ | ⟨i, t, rfl, hz⟩
    · have hz' : (reprText y).length ≤ sizeLine := sm _ (by omega)
      have out : ∀ (tk : Tok) (tt : Nat), ∃ (y' : Str) (t' : Tok), Value.str (reprText y) tk = .str y' t' ∧ (Str.empty ++ msg ++ y').length ≤ sizeLine ∧ Joins (model prog w) A E [] (Str.empty ++ msg ++ y') (fun out s₁ => out.length ≤ sizeLine ∧ Q (.str out s₁.toks) { s₁ with toks := s₁.toks + 1 }) { s with toks := tt } := fun tk tt => by
        have hl : (Str.empty ++ msg ++ reprText y).length ≤ sizeLine := by
          rw [Str.length_append, Str.length_append]
          exact sm _ (by show 0 + msg.length + _ ≤ _; omega)
        exact ⟨_, _, rfl, hl, hl, h _ _⟩
      exact pyReprObj_str (wpAny_formatField_str (out _ _) (out _ _) hz') hz'
    · have hz' := int_text_fits hz
      have ln : (toString i : Str).length ≤ 100000 := by
        have e := int_text_length_le (k := 1920) (by decide) hz
        show (Str.ofString (toString i)).length ≤ 100000
        rw [ofString_length]
        omega
      have out : ∀ (tk : Tok) (tt : Nat), ∃ (y' : Str) (t' : Tok), Value.str (toString i) tk = .str y' t' ∧ (Str.empty ++ msg ++ y').length ≤ sizeLine ∧ Joins (model prog w) A E [] (Str.empty ++ msg ++ y') (fun out s₁ => out.length ≤ sizeLine ∧ Q (.str out s₁.toks) { s₁ with toks := s₁.toks + 1 }) { s with toks := tt } := fun tk tt => by
        have hl : (Str.empty ++ msg ++ (toString i : Str)).length ≤ sizeLine := by
          rw [Str.length_append, Str.length_append]
          exact sm _ (by show 0 + msg.length + _ ≤ _; omega)
        exact ⟨_, _, rfl, hl, hl, h _ _⟩
      exact pyReprObj_int hz (wpAny_formatField_str (out _ _) (out _ _) hz')
  · rw [ecv]
    refine wpAny_JoinedStr ?_
    have e0 : evalEach [Expr.Constant (.str msg) 0 q.d, .FormattedValue (.Name fld q.e) (-1) none q.f] env = [eval (.Constant (.str msg) 0 q.d) env, eval (.FormattedValue (.Name fld q.e) (-1) none q.f) env] := by first | rfl | simp [evalEach]
    rw [e0]
    refine Calls.Constant_str ⟨msg, _, rfl, ?_, ?_⟩
    · rw [Str.length_append]
      exact sm _ (by show 0 + msg.length ≤ _; omega)
    refine wpAny_FormattedValue_plain (ESX.ldL hn hv ?_ hk hl hd)
    rcases hr with ⟨y, t, rfl, hz⟩ | ⟨i, t, rfl, hz⟩
    · have hy := reprText_ge y
      have hl : (Str.empty ++ msg ++ y).length ≤ sizeLine := by
        rw [Str.length_append, Str.length_append]
        exact sm _ (by show 0 + msg.length + _ ≤ _; omega)
      have out : ∀ (tk : Tok) (tt : Nat), ∃ (y' : Str) (t' : Tok), Value.str y tk = .str y' t' ∧ (Str.empty ++ msg ++ y').length ≤ sizeLine ∧ Joins (model prog w) A E [] (Str.empty ++ msg ++ y') (fun out s₁ => out.length ≤ sizeLine ∧ Q (.str out s₁.toks) { s₁ with toks := s₁.toks + 1 }) { s with toks := tt } := fun tk tt => ⟨_, _, rfl, hl, hl, h _ _⟩
      exact wpAny_formatField_str (out _ _) (out _ _) (sm _ (by omega))
    · have hz' := int_text_fits hz
      have ln : (toString i : Str).length ≤ 100000 := by
        have e := int_text_length_le (k := 1920) (by decide) hz
        show (Str.ofString (toString i)).length ≤ 100000
        rw [ofString_length]
        omega
      have hl : (Str.empty ++ msg ++ (toString i : Str)).length ≤ sizeLine := by
        rw [Str.length_append, Str.length_append]
        exact sm _ (by show 0 + msg.length + _ ≤ _; omega)
      exact wpAny_formatField_int hz ⟨_, _, rfl, hl, hl, h _ _⟩
end
section
variable {prog : Program} {w : World} {A : Around} {E : Value → Shared → Prop} {R : Result → Shared → Prop} {K : Frag} {mg mb : Str → Option Value} {nm fld msg : Str} {C fI : Addr}
theorem kept_but {K : Frag} {h h' : Heap} {x : Addr} (X : K.In h) (hx : K.lookup x = none) (k : ∀ b o, b ≠ x → h.get? b = some o → h'.get? b = some o) : K.In h' := fun a o e =>
  k a o (fun z => by rw [z, hx] at e; cases e) (X a o e)
theorem exc_init (T : ExTxt prog K mg nm fld msg C fI) {x t0 : Addr} {v : Value} {hp : Heap} {g : Array GenState} {dr : Drawn} {tk : Nat} {os : OsState} (X : K.In hp) (hlim : hp.NoLimit) (hG : hp.Ns mainGlobals mg) (hB : hp.Ns builtinsNs mb) (hbb : ∀ x : Str, x ≠ "__name__" → mb x = bootBuiltins x)
    (hx : hp.get? x = some (excO C t0)) (hnx : K.lookup x = none) (hroom : A.depth < recursionLimit) (hr : Rp v)
    (hq : ∀ h' tk' dx, InitEnd hp h' x C dx fld v → R (.ok (.ret .none)) ⟨h', g, dr, tk', os⟩) :
    codeAny (model prog w) A (.call (.ref fI) ⟨[.ref x, v], []⟩) R ⟨hp, g, dr, tk, os⟩ := by
  obtain ⟨oc, kV, doc, pm, ct, od, an, osl, qual, cda, cc, p1, p2, q, vs, file, tf, ccl, cl, cdd, cld, ccs, csl, ho, hcd, hcda, hvs, hfile, hcc, ⟨pl, hev⟩, hbind⟩ := T.fn
  obtain ⟨nm', q', N, bs, bm, sn, sub, ab, col, dd, k0, k1, k2, k3, k5, hC, hbm⟩ := T.cls
  have hcl : clsIn K C = some { name := nm', bases := bs, mro := .ref C :: bm, ns := N, qualname := q', hasDict := true, slotNames := sn, subclasses := sub, abstract := ab, collection := col, hasDel := false } := by unfold clsIn; rw [hC] <;> rfl
  have e1 : (iS fld).names.lookup fld = some .local := by
    show (iN fld).lookup fld = _
    unfold iN
    have z : (fld == PySem.Str.ofString "self") = false := by simpa using T.f1
    simp [List.lookup, z]
  have e2 : (iS fld).names.lookup ("self" : Str) = some .local := rfl
  have e3 : (iS fld).names.lookup ("__class__" : Str) = some .free := by
    show (iN fld).lookup ("__class__" : Str) = _
    unfold iN
    have z : (("__class__" : Str) == fld) = false := by simpa using Ne.symm T.f2
    have z2 : (("__class__" : Str) == PySem.Str.ofString "self") = false := by decide
    simp [List.lookup, z, z2]
  have e4 : (iS fld).names.lookup ("super" : Str) = some .globalImplicit := by
    show (iN fld).lookup ("super" : Str) = _
    unfold iN
    have z : (("super" : Str) == fld) = false := by simpa using Ne.symm T.f3
    have z2 : (("super" : Str) == PySem.Str.ofString "self") = false := by decide
    have z3 : (("super" : Str) == PySem.Str.ofString "__class__") = false := by decide
    simp [List.lookup, z, z2, z3]
  refine ks_codeAny_call_defAt (fd := ksFn "__init__" qual (iA fld p1 p2) (iB fld msg q) (iS fld) .none kV doc pm an (.ref cda) ct cc) (body := iB fld msg q) (binds := [("self", .ref x), (fld, v)]) hroom (X _ _ ho) rfl hlim (codeRec_of X hcd) rfl (BindsTo.of_eq (hbind _ _)) ?_ ?_ (fun h₁ hn k => ?_) rfl rfl rfl
  · intro y hy
    have hy : y ∈ iN fld := hy
    unfold iN at hy
    simp only [List.mem_cons, List.not_mem_nil, or_false] at hy
    rcases hy with rfl | rfl | rfl | rfl <;> exact fun z => nomatch z
  · intro y hy
    simp only [List.mem_cons, List.not_mem_nil, or_false] at hy
    rcases hy with rfl | rfl
    · exact e2
    · exact e1
  have X₁ : K.In h₁ := X.keeps k
  have hxL : hp.objs.size ≠ x := Nat.ne_of_gt (Heap.lt_size hx)
  have hx₁ := k _ _ hx
  have mS : List.lookup ("self" : Str) (List.reverse [(("self" : Str), Value.ref x), (fld, v)]) = some (.ref x) := by
    show List.lookup ("self" : Str) [(fld, v), (("self" : Str), Value.ref x)] = _
    have z : (("self" : Str) == fld) = false := by simpa using Ne.symm T.f1
    simp [List.lookup, z]
  have mF : List.lookup fld (List.reverse [(("self" : Str), Value.ref x), (fld, v)]) = some v := by
    show List.lookup fld [(fld, v), (("self" : Str), Value.ref x)] = _
    simp [List.lookup]
  refine ks_wpAt_execs_cons (ks_wpAt_Expr_any (ks_wpAt_MethodCall (o := iSup q) (name := "__init__") (he := hev _) ?_))
  have oC := X₁ _ _ hC
  refine ks_wpAt_super_base (env := callEnv (ksFn "__init__" qual (iA fld p1 p2) (iB fld msg q) (iS fld) .none kV doc pm an (.ref cda) ct cc) hp.objs.size fI) e4 e3 (by decide) rfl (X₁ _ _ ho) rfl rfl rfl (X₁ _ _ hcda) rfl hvs hfile T.htop ?_
  refine ks_loadName_global rfl e4 (loadGlobal_builtin (hG.keeps k) T.hsup (hB.keeps k) ((hbb _ (by decide +kernel)).trans (by first | boot_by_name | rfl | kernel_rfl)) ⟨rfl, ?_⟩)
  refine wpAny_loadName_free rfl e3 rfl ⟨_, X₁ _ _ hcc, rfl⟩ ?_
  refine wpAny_loadName_local rfl e2 hn mS ?_
  refine ks_wpAny_isType_cls oC rfl ⟨rfl, ?_⟩
  refine ks_wpAny_call_super oC rfl hx₁ rfl (fun c e => (nomatch e)) (looks_mroIn X₁ T.mroS) (fun h₂ hso k₂ => ?_)
  have X₂ : K.In h₂ := X₁.keeps k₂
  have hx₂ := k₂ _ _ hx₁
  have hsup : alongIn K "__init__" (((Value.ref C :: bm).dropWhile (· != .ref C)).drop 1) = some (some (.builtin "ValueError.__init__")) := by
    have z := T.sup
    unfold ks_superIn at z
    rw [hcl] at z
    exact z
  have I₂ : InstAt h₂ x (excO C t0) C none := ⟨hx₂, rfl, rfl, trivial⟩
  refine kxs_getMethod kxs_ValueError hso (looks_opaque X₂ T.opq) (l₀ := .ref C :: bm) ?_ rfl X₂ hsup (I₂.type.andThen (looks_subIn X₂ T.subV)) (ks_ne X₂ I₂ hcl) (by decide) ?_
  · exact fun A Q E s k q => wpAny_bind ((looks_clsIn X₂ hcl) A _ E s k (wpAny_pure q))
  have hu : (h₂.push (kxs_mw "ValueError.__init__" x)).get? h₂.objs.size = some (kxs_mw "ValueError.__init__" x) := Heap.get?_push_at rfl rfl
  have k₃ : ∀ b o, h₂.get? b = some o → (h₂.push (kxs_mw "ValueError.__init__" x)).get? b = some o := fun b o e => Heap.get?_push_of_some _ e
  have X₃ := X₂.keeps k₃
  have hn₃ : (h₂.push (kxs_mw "ValueError.__init__" x)).Ns hp.objs.size _ := (hn.keeps k₂).keeps k₃
  refine kxs_callWith (i := "ValueError.__init__") (x := x) rfl (evalArgs_plain ?_)
  show wpAny _ _ (spliced ((false, eval (iArg fld msg q) _) :: backTo q.h (starEach [] _))) _ _ _
  refine Calls.spliced_cons (told_ok hn₃ mF hr T.ml rfl e1 T.f4 fun u tk' => Calls.spliced_nil ⟨hu, ?_⟩)
  show wpAny _ _ (call (.ref h₂.objs.size) [u]) _ _ _
  refine call_mw (X₃ _ _ hC) (k₃ _ _ hx₂) hu (one_size _) fun h₄ t1 k₄ sz₄ hx₄ => ?_
  show wpAt _ _ _ (execs _ _) _ _ _
  refine wpAt_of_wpAny ?_
  have X₄ : K.In h₄ := kept_but X₃ hnx k₄
  have hn₄ : h₄.Ns hp.objs.size (fun x_1 => List.lookup x_1 (List.reverse [(("self" : Str), Value.ref x), (fld, v)])) := by
    obtain ⟨oL, es, ep, hL, r⟩ := hn₃
    exact ⟨oL, es, ep, k₄ _ _ hxL hL, r⟩
  refine wpAny_execs_cons (plainObj_wpAny_Assign_Attribute ?_)
  refine ESX.ldL hn₄ mF (ESX.ldL hn₄ mS ?_ rfl e2) rfl e1 T.f4
  refine set_plain X₄ (ox := excO C t1) (od := none) ⟨hx₄, rfl, rfl, trivial⟩ T.sa ?_
  refine exc_osa X₄ hx₄ hcl (show refsVE (.ref C :: bm) = true from hbm) rfl T.noN (fun h₅ tk₅ dx k₅ dn dne hx₅ hn₅ => ?_)
  show wpAny _ _ (execs _ _) _ _ _
  have z : hp.objs.size < h₄.objs.size := hn₄.lt
  exact wpAny_execs_nil (hq h₅ tk₅ dx ⟨fun b o hb e => k₅ b o hb (k₄ b o hb (k₃ b o (k₂ b o (k b o e)))), ⟨t1, hx₅⟩, Nat.le_of_lt (Nat.lt_of_lt_of_le z dn), dne, hn₅⟩)
end
section
variable {prog : Program} {w : World} {A : Around} {R : Result → Shared → Prop} {K : Frag} {mg mb : Str → Option Value} {nm fld msg : Str} {C fI : Addr}
theorem exc_made (T : ExTxt prog K mg nm fld msg C fI) {v : Value} {hp : Heap} {g : Array GenState} {dr : Drawn} {tk : Nat} {os : OsState} (X : K.In hp) (hlim : hp.NoLimit) (hG : hp.Ns mainGlobals mg) (hB : hp.Ns builtinsNs mb) (hbb : ∀ x : Str, x ≠ "__name__" → mb x = bootBuiltins x) (hroom : A.depth + 1 < recursionLimit) (hr : Rp v)
    (hq : ∀ h' tk' e d, OwnMade hp h' e C d fld v → R (.ok (.ret (.ref e))) ⟨h', g, dr, tk', os⟩) :
    codeAny (model prog w) A (.call (.ref C) ⟨[v], []⟩) R ⟨hp, g, dr, tk, os⟩ := by
  obtain ⟨nm', q', N, bs, bm, sn, sub, ab, col, dd, k0, k1, k2, k3, k5, hC, hbm⟩ := T.cls
  have k : ∀ b o, hp.get? b = some o → ((hp.push (kdv_tup [v])).push (excO C hp.objs.size)).get? b = some o := fun b o e => Heap.get?_push_of_some _ (Heap.get?_push_of_some _ e)
  have hget : ((hp.push (kdv_tup [v])).push (excO C hp.objs.size)).get? (hp.objs.size + 1) = some (excO C hp.objs.size) := by heap_get
  have hnx : K.lookup (hp.objs.size + 1) = none := by
    cases e : K.lookup (hp.objs.size + 1) with
    | none => rfl
    | some o =>
      have z : hp.get? (hp.objs.size + 1) = some o := X _ _ e
      exact absurd (Nat.lt_of_succ_lt (Heap.lt_size z)) (Nat.lt_irrefl _)
  refine call_own F.excBase_ValueError (fun X => refsVE_contains X bm hbm) (X _ _ hC) (looks_findIn X T.iC) (fun self => bind_fn X self T.tC) (one_size v) ?_
  refine exc_init (tk := tk) T (X.keeps k) (hlim.keeps k) (hG.keeps k) (hB.keeps k) hbb hget hnx ?_ hr fun h' tk' dx ⟨k', ⟨t1, hx⟩, dn, dne, hns⟩ => ?_
  · show A.depth + 1 < recursionLimit
    exact hroom
  · have old : ∀ b o, hp.get? b = some o → h'.get? b = some o := fun b o e => k' b o (Nat.ne_of_lt (Nat.lt_succ_of_lt (Heap.lt_size e))) (k b o e)
    have z : hp.objs.size + 1 + 1 ≤ dx := by
      first
        | (simpa only [Heap.size_push] using dn)
        | exact dn
        | (have q := dn; rw [Heap.size_push, Heap.size_push] at q; exact q)
    exact ⟨rfl, hq h' tk' (hp.objs.size + 1) dx ⟨old, Nat.le_succ _, ⟨_, _, hx, rfl, rfl, rfl, rfl⟩, Nat.le_trans (Nat.le_trans (Nat.le_succ _) (Nat.le_succ _)) z, dne, hns⟩⟩
end
end XExc
end PySem
namespace XL
open PySem PySem.Spec PyProof.Rows L2
/-! ### the error, over the abstract heap -/
def RpV (v : V) : Prop := (∃ y : Str, v = .str y ∧ (reprText y).length ≤ 100000) ∨ ∃ i : Int, v = .int i ∧ i.natAbs.log2 < 1920
theorem RpV.rp {v : V} {u : Value} (h : RpV v) (r : RelV v u) : PySem.XExc.Rp u := by
  rcases h with ⟨y, rfl, hz⟩ | ⟨i, rfl, hz⟩
  · obtain ⟨t, rfl⟩ := r
    exact .inl ⟨y, t, rfl, hz⟩
  · obtain ⟨t, rfl⟩ := r
    exact .inr ⟨i, t, rfl, hz⟩
theorem relO_one {fld : Str} {v : V} {v' : Value} (r : RelV v v') (f : Str) : RelO (List.lookup f [(fld, v)]) (if f = fld then some v' else none) := by
  by_cases hw : f = fld
  · subst hw
    rw [if_pos rfl]
    have q : List.lookup f [(f, v)] = some v := by simp [List.lookup]
    rw [q]
    exact r
  · rw [if_neg hw]
    have qw : (f == fld) = false := by simpa using hw
    have q2 : List.lookup f [(fld, v)] = none := by simp [List.lookup, qw]
    rw [q2]
    trivial
section
variable {X : Cx} {C fI : Addr} {nm fld msg : Str}
def tMkX (C : Addr) (fld : Str) (ta : TA) : L2.St → Hp → XK → Prop := fun σ H Q => ta σ H fun vs H1 => ∃ v, vs = [v] ∧ RpV v ∧ ∀ d, H1 d = none → Q (.ref C) (some d) (upd H1 d (.xd [(fld, v)]))
theorem pmk_x {a : Expr} {ta : TA} {p pos : Pos} {k : Nat} (T : PySem.XExc.ExTxt X.prog X.K X.mg nm fld msg C fI) (hr : Room (k + 1) X.A) (ha : PA X [a] ta) (hg : Gl X nm := by rfl) (hd : (nm == ("__debug__" : Str)) = false := by decide)
    (he : starEach (a :: []) X.env = (false, eval a X.env) :: starEach [] X.env := by rfl) (hpl : (backTo pos (starEach [] X.env)).any (·.1) = false := by rfl) :
    PMk X (.Call (.Name nm p) [a] [] pos) (tMkX C fld ta) := by
  intro pins s σ H Q I h
  refine wpAny_Call_Name_kw (ld_glob I hg T.gC ?_ hd)
  refine PySem.W.callWith_K (h₀ := X.base) I.ok.mod.kin T.kC (thn (ha.run pos pins s σ H _ I h) fun us s1 hh => ?_) he hpl
  obtain ⟨vs, H1, I1, r1, v, ev, rp, q1⟩ := hh
  subst ev
  refine ⟨I1.kIn, ?_⟩
  cases r1 with
  | cons rv rn =>
    rename_i v' us'
    cases rn
    show wpAny _ _ (call (.ref C) [v']) _ _ _
    have hlim := I1.nolimit
    have hG := I1.mod.glob.keeps I1.bk
    obtain ⟨mb, hB, hbb⟩ := I1.mod.blt
    have hB := hB.keeps I1.bk
    obtain ⟨hp, g, dr, tk, os⟩ := s1
    refine wpAny_call (PySem.XExc.exc_made T I1.kIn hlim hG hB hbb (by have := hr.dp; omega) (rp.rp rv) fun h' tk' e d M => ?_)
    show MkP X pins σ Q (.ref e) ⟨h', g, dr, tk', os⟩
    obtain ⟨oe, fv, hoe, hc, hd, hdat, h1⟩ := M.obj
    have hns := M.ns
    obtain ⟨G', g1, g2⟩ := restrict h' fun b => decide (b ≠ e)
    have gk : ∀ b, b ≠ e → G'.get? b = h'.get? b := fun b hb => g1 b (decide_eq_true hb)
    have ge : G'.get? e = none := g2 e (by simp)
    have old : ∀ b o, hp.get? b = some o → G'.get? b = some o := fun b o q => (gk b (Nat.ne_of_lt (Nat.lt_of_lt_of_le (Heap.lt_size q) M.new))).trans (M.keep b o q)
    have ob : ObjOk X.prog X.w (upd H1 d (.xd [(fld, v)])) G' d (.xd [(fld, v)]) :=
      ⟨_, hns.at (fun o q => (gk d M.dne).trans q), fun f => relO_one rv f⟩
    have J : Inv X pins σ (upd H1 d (.xd [(fld, v)])) ⟨G', g, dr, tk', os⟩ := I1.laid (t' := tk') old M.dbig ob
    refine ⟨e, oe, fv, ⟨G', g, dr, tk', os⟩, _, .ref C, some d, rfl, J, fun b o q => ?_, ge, hoe, ⟨hc, hd⟩, hdat, h1, ?_, rfl, I1.bare, raises_own T.exC T.tyC, q1 d (I1.hok.fresh M.dbig)⟩
    · by_cases hb : b = e
      · have q' : G'.get? b = some o := q
        rw [hb, ge] at q'; cases q'
      · exact (gk b hb).symm.trans q
    · rw [upd_ne (Ne.symm M.dne)]
      exact I1.hok.fresh M.new
def tRaiseX (C : Addr) (fld : Str) (W : WX) (ta : TA) : TS := fun _ σ H => tMkX C fld ta σ H fun cls d H' => W cls d σ H'
theorem ps_raiseX {a : Expr} {ta : TA} {W : WX} {p pos pos2 : Pos} {k : Nat} (hc : X.calm = true) (T : PySem.XExc.ExTxt X.prog X.K X.mg nm fld msg C fI) (hr : Room (k + 1) X.A) (tk : Takes X W) (ha : PA X [a] ta) (hg : Gl X nm := by rfl) (hd : (nm == ("__debug__" : Str)) = false := by decide)
    (he : starEach (a :: []) X.env = (false, eval a X.env) :: starEach [] X.env := by rfl) (hpl : (backTo pos (starEach [] X.env)).any (·.1) = false := by rfl) :
    PS X (.Raise (some (.Call (.Name nm p) [a] [] pos)) none pos2) (tRaiseX C fld W ta) := ps_raise hc tk (pmk_x T hr ha hg hd he hpl)
end
/-! ### isinstance(e, c), isinstance(e, (c, ..)) of a caught error -/
section
variable {X : Cx} {a : Addr} {oe : Obj} {cls : Value} {d : Option Addr} {pn : List (Addr × Obj)}
inductive ClsRs : List V → List Value → Prop where
  | nil : ClsRs [] []
  | cons {c : Addr} {cs : List V} {us : List Value} (h : ClsRs cs us) : ClsRs (.ref c :: cs) (.ref c :: us)
theorem ClsRs.eq : ∀ {cs : List V} {us : List Value}, ClsRs cs us → ∀ {ws : List Value}, Vals cs ws → ws = us
  | _, _, .nil, _, .nil => rfl
  | _, _, .cons h, _, .cons r rs => by
    cases r
    rw [h.eq rs]
def rIsX (K : PySem.W.Frag) (cls : Value) (d : Option Addr) (a : Addr) : List V → Hp → VK → Prop := fun xs H Q => ∃ (D dd : Addr) (fs : List (Str × V)) (b : Bool), cls = .ref D ∧ d = some dd ∧ H dd = some (.xd fs) ∧ ExcC K D ∧
  ((∃ (c : V) (cv : Value), xs = [.ref a, c] ∧ (∀ u, RelV c u → u = cv) ∧ PySem.W.kitOne K (.ref D) cv = some b) ∨ ∃ (p : Addr) (cs : List V) (us : List Value), xs = [.ref a, .ref p] ∧ H p = some (.tup cs) ∧ ClsRs cs us ∧ PySem.W.kitAny K (.ref D) us = some b) ∧ Q (.bl b) H
theorem call_isX (hz : Zc cls d oe) (hf : ∃ vs, oe.data = .fields vs) : CallR (X.suite a ((a, oe) :: pn)) (.builtin "isinstance") (rIsX X.K cls d a) := by
  intro pins s σ H xs us Q I r h
  obtain ⟨D, dd, fs, b, rfl, rfl, hd, C, hcs, q⟩ := h
  obtain ⟨hget, _⟩ := I.pin (a, oe) (List.mem_append.mpr (.inl List.mem_cons_self))
  obtain ⟨vs, hv⟩ := hf
  have hx : ObjOk X.prog X.w H s.heap dd (.xd fs) := I.hok dd _ hd
  obtain ⟨mA, hns, _⟩ := hx
  obtain ⟨od, ho, _⟩ := lookIn_ns hns
  have J : PySem.W.InstAt s.heap a oe D (some od) := ⟨hget, hz.1, by unfold PySem.W.notCls; rw [hv] <;> rfl, by rw [hz.2]; exact ho⟩
  have cl : (PySem.W.clsIn X.K D).isSome = true := by
    obtain ⟨cd, hc, _⟩ := PySem.W.any_some C.hd
    rw [hc]
    rfl
  have Z := PySem.W.kitx_exc (x := a) (ox := oe) (od := some od) cl C.hg C.hk C.hs C.ha C.hn C.ht C.hm
  rcases hcs with ⟨c, cv, rfl, hcv, e⟩ | ⟨p, cs, us2, rfl, hp, hc, e⟩
  · cases r with
    | cons rx rr =>
      cases rr with
      | cons rt rr =>
        cases rr
        cases rx
        have ec := hcv _ rt
        subst ec
        exact PySem.W.kia_one Z I.kIn J e (fun z => nomatch z) fun tk => ⟨.bl b, H, I.kept (t' := tk) fun _ _ z => z, rfl, q⟩
  · cases r with
    | cons rx rr =>
      cases rr with
      | cons rt rr =>
        cases rr
        cases rx
        cases rt
        obtain ⟨_, its, rv, o, h1, h2, n, h3⟩ := (show ObjOk X.prog X.w H s.heap p (.tup cs) from I.hok p _ hp)
        have ei := hc.eq rv
        subst ei
        obtain ⟨oc, od', oda, osl⟩ := o
        dsimp only at h2 h3
        subst h2 h3
        exact PySem.W.kia_tup Z I.kIn J h1 e (fun z => nomatch z) fun tk => ⟨.bl b, H, I.kept (t' := tk) fun _ _ z => z, rfl, q⟩
end
/-! ### own [ ] and [ ] = within a try -/
section
variable {X : Cx} {CX : CXT} {C f : Addr} {fd : FuncData} {ps : List Str} {sp : Sp} {E : L2.St → XK} {n : Nat} {o i e : Expr} {to ti te : TE} {pos pos' : Pos}
def tIxOS (C : Addr) (sp : Sp) (E : L2.St → XK) (to ti : TE) : TE := fun σ H Q => to σ H fun x H1 => ti σ H1 fun y H2 => ∃ a dx fs, x = .ref a ∧ H2 a = some (.ins C dx fs) ∧ sp [.ref a, y] H2 Q (E σ)
theorem pe_ixOS (ho : PE X o to) (hi : PE X i ti) (F : FnOk X.prog X.w X.K X.mg X.base CX n f fd ps sp) (hs : PySem.W.findIn X.K (.ref C) "__getitem__" = some (some (.ref f))) (hf : PySem.W.fnIn X.K f = true) (hfn : PySem.W.isFn X.K (.ref f) = true)
    (hb : Binds X.K fd ps []) (hx : ∀ σ, PassesAt CX X σ (E σ)) (hr : Room (n + 1) X.A) (hsl : ∀ x v, subscripted i true (.ref x) v = runValue (.builtin "lifetime.subscript" ⟨[.ref x, v], []⟩) := by intro _ _; with_unfolding_all rfl) :
    PE X (.Subscript o i pos) (tIxOS C sp E to ti) := by
  refine ⟨fun pins s σ H Q I h => ?_⟩
  refine Subscript_ (thn (ho.run pins s σ H _ I h) fun v s1 ⟨x, H1, I1, r1, q1⟩ => thn (hi.run pins s1 σ H1 _ I1 q1) fun u s2 ⟨y, H2, I2, r2, q2⟩ => ?_)
  obtain ⟨a, dx, fs, rfl, ha, hsp⟩ := q2
  cases r1
  obtain ⟨mA, J, _⟩ := ins_get I2.hok ha
  obtain ⟨od, J, _⟩ := J.look
  obtain ⟨m, hF⟩ := I2.fr
  refine PySem.W.sub_K hF I2.ok.mod.kin J hs hf hfn ?_ (hsl _ _)
  have hl : ([Value.ref a, u] ++ []).length = ps.length := F.len _ _ _ _ hsp
  refine wpAny_call (codeAny_mono (F.run X.A.in1 X.stack s2 H2 ⟨[.ref a, u], []⟩ [.ref a, u] [.ref a, y] Q (E σ) hr.in1 I2.env0.in1 (hb s2 [.ref a, u] I2.kIn hl) (.cons rfl (.cons r2 .nil)) hsp) fun r s' hq => ?_)
  cases r with
  | error e => exact hx σ pins H2 s2 e s' I2 hq
  | ok fl =>
    cases fl with
    | ret u => exact I2.after hq
    | next => exact False.elim hq
    | brk => exact False.elim hq
    | cont => exact False.elim hq
def gSubS (C : Addr) (sp : Sp) (E : L2.St → XK) (to ti : TE) : TG := fun v σ H Q => to σ H fun x H1 => ti σ H1 fun y H2 => ∃ a dx fs, x = .ref a ∧ H2 a = some (.ins C dx fs) ∧ sp [.ref a, y, v] H2 (fun _ H' => Q σ H') (E σ)
theorem pg_subOS (ho : PE X o to) (hi : PE X i ti) (F : FnOk X.prog X.w X.K X.mg X.base CX n f fd ps sp) (hq : PySem.W.noSeq X.K C = true) (hs : PySem.W.findIn X.K (.ref C) "__setitem__" = some (some (.ref f))) (hfn : PySem.W.isFn X.K (.ref f) = true)
    (hb : Binds X.K fd ps []) (hx : ∀ σ, PassesAt CX X σ (E σ)) (hr : Room n X.A)
    (ha : ∀ v, assign (.Subscript o i pos) X.env v = (do
      let ov ← holding [v] (eval o X.env)
      let iv ← holding [v, ov] (eval i X.env)
      standAt pos
      holding [v, ov, iv] (setItem ov iv v)
      release [v, ov, iv] []) := by intro _; rfl) : PG X (.Subscript o i pos) (gSubS C sp E to ti) := by
  refine ⟨fun pins s σ H v u Q I r h => ?_⟩
  rw [ha]
  refine wpAny_bind (wpAny_holding (thn (ho.run pins s σ H _ I h) fun ov s1 ⟨x, H1, I1, r1, q1⟩ => ?_))
  refine wpAny_bind (wpAny_holding (thn (hi.run pins s1 σ H1 _ I1 q1) fun iv s2 ⟨y, H2, I2, r2, q2⟩ => ?_))
  obtain ⟨a, dx, fs, rfl, ha2, hsp⟩ := q2
  cases r1
  obtain ⟨mA, J, _⟩ := ins_get I2.hok ha2
  obtain ⟨od, J, _⟩ := J.look
  obtain ⟨m, hF⟩ := I2.fr
  refine wpAny_bind (wpAny_standAt (wpAny_bind (wpAny_holding (PySem.W.ksp_setItem hF I2.ok.mod.kin J hq hs hfn ?_))))
  refine wpAny_mono (run_fnS (us := [.ref a, iv, u]) (vs := [.ref a, y, v]) (E := E) F hr hb (hx σ) I2 (.cons rfl (.cons r2 (.cons r .nil))) hsp) (fun r s' q => ?_) fun _ _ e => e
  obtain ⟨z, H', I', rz, q⟩ := q
  exact wpAny_release ⟨σ, H', I', q⟩
end
end XL
set_option Elab.async false
set_option linter.all false
set_option maxRecDepth 100000
set_option maxHeartbeats 4000000
/-! XOwnIt: list(o), o an object whose own __iter__ hands on iter(t), t a tuple. -/
namespace XL
open PySem PySem.Spec PyProof.Rows L2
/-- an iterator over the tuple at t, the next place is i -/
def ItT (t it : Addr) (i : Nat) : HO := .ext fun h => IsTupIter h it t i
/-- .. that has ended -/
def ItTE (it : Addr) : HO := .ext fun h => ∃ o, h.get? it = some o
theorem itT_ok {P : Program} {w : World} {H : Hp} {h : Heap} {t it : Addr} {i : Nat} (e : IsTupIter h it t i) : ObjOk P w H h it (ItT t it i) := by
  obtain ⟨o, h1, h2⟩ := e
  exact ⟨⟨o, h1, h2⟩, ⟨_, h1⟩, fun g1 g2 ⟨o', q1, q2⟩ k => ⟨o', k _ q1, q2⟩⟩
theorem itTE_ok {P : Program} {w : World} {H : Hp} {h : Heap} {it : Addr} {o : Obj} (e : h.get? it = some o) : ObjOk P w H h it (ItTE it) := ⟨⟨o, e⟩, ⟨_, e⟩, fun g1 g2 ⟨o', q1⟩ k => ⟨o', k _ q1⟩⟩
section
variable {X : Cx} {pins : List (Addr × Obj)} {σ : L2.St} {H : Hp} {s : Shared}
theorem itT_get {t it : Addr} {i : Nat} (I : Inv X pins σ H s) (e : H it = some (ItT t it i)) : IsTupIter s.heap it t i := (I.hok it _ e).1
theorem call_iter_tup {M : Program} {w : World} {A : Around} {E : Value → Shared → Prop} {s : Shared} {t : Addr} {items : Array Value} {Q : Value → Shared → Prop} (ht : IsTup s.heap t items)
    (h : Q (.ref s.heap.objs.size) { s with heap := s.heap.push { cls := .type "tuple_iterator", data := .fields #[.ref t, .int 0 0] } }) : wpAny (model M w) A (call (.builtin "iter") [.ref t]) Q E s := by
  refine Calls.call_function_entry (by decide +kernel) (by decide +kernel) PySem.W.kdk_entry_iter (PySem.W.kdk_args_iter _) ?_
  unfold Builtin.«iter»
  refine wpAny_bind (m := someArgs "iter" 1 2 _) (wpAny_of_eq (a := [Value.ref t]) (by first | rfl | kernel_rfl!) ?_)
  show wpAny _ _ (pyIter (.ref t) >>= _) _ _ _
  refine wpAny_bind (iter_tuple ht ?_)
  exact wpAny_pure ⟨_, rfl, h⟩
/-- iter(t) -/
def rIterT (K : PySem.W.Frag) : List V → Hp → VK → Prop := fun xs H Q => ∃ (t : Addr) (zs : List V), xs = [.ref t] ∧ SqT K H t zs ∧ ∀ it, H it = none → Q (.ref it) (upd H it (ItT t it 0))
theorem call_iterT : CallR X (.builtin "iter") (rIterT X.K) := by
  intro pins s σ H xs us Q I r h
  obtain ⟨t, zs, rfl, hq, q⟩ := h
  obtain rfl := Vals.ref1 r
  obtain ⟨its, rv, pl, hz⟩ := I.tuple hq
  refine call_iter_tup pl ?_
  exact ⟨.ref s.heap.objs.size, _, I.laid (t' := s.toks) (fun b u e => Heap.get?_push_of_some _ e) (Nat.le_refl _) (itT_ok ⟨_, Heap.get?_push_size _ rfl, rfl, rfl⟩), rfl, q _ (I.hok.fresh (Nat.le_refl _))⟩
theorem call_iterTK (K : PySem.W.Frag) (h : X.K = K := by rfl) : CallR X (.builtin "iter") (rIterT K) := h ▸ call_iterT
theorem sqT_upd {K : PySem.W.Frag} {H : Hp} {t x : Addr} {zs : List V} {o : HO} (h : SqT K H t zs) (hx : ∀ o' xs, H x ≠ some (.tup xs) ∧ H x ≠ some (.frz o' (.tup xs))) : SqT K (upd H x o) t zs := by
  rcases h with (h | ⟨ob, h⟩) | h
  · have ne : t ≠ x := fun z => (hx default zs).1 (by rw [← z]; exact h)
    exact .inl (.inl (by rw [upd_ne ne]; exact h))
  · have ne : t ≠ x := fun z => (hx ob zs).2 (by rw [← z]; exact h)
    exact .inl (.inr ⟨ob, by rw [upd_ne ne]; exact h⟩)
  · exact .inr h
/-- the end of a tuple: the iterator itself stays there -/
theorem next_tup_end {P : Program} {w : World} {A : Around} {E : Value → Shared → Prop} {s : Shared} {it t : Addr} {i : Nat} {items : Array Value} {Q : Option Value → Shared → Prop} (hh : A.handled = none)
    (hit : IsTupIter s.heap it t i) (ht : IsTup s.heap t items) (hx : items[i]? = none)
    (hQ : ∀ h', Heap.ExtBut it s.heap h' → (∃ o, h'.get? it = some o) → Q none { s with heap := h' }) : wpAny (model P w) A (pyNext (.ref it)) Q E s := by
  obtain ⟨o, ho, hc, hd⟩ := id hit
  obtain ⟨ol, hol, _, nl, hdl⟩ := ht
  unfold pyNext
  refine wpAny_bind (wpAny_attempt (wpAny_callSpecial?_slot (name := Str.ofString "__next__") hit.typeIs slot_tupleiter_next (wpAny_call_entry slot_tupleiter_next hit.typeIs entry_tupleiter_next ?_ (args_tupleiter_next _))))
  show wpAny _ _ (field (.ref it) 0 >>= _) _ _ s
  refine wpAny_bind (wpAny_field ho hd (x := .ref t) rfl (PySem.W.KFB.if_not rfl ?_))
  show wpAny _ _ (field (.ref it) 1 >>= _) _ _ s
  refine wpAny_bind (wpAny_field ho hd (x := .int i 0) rfl ?_)
  show wpAny _ _ (seqItems? (.ref t) >>= _) _ _ s
  refine wpAny_bind (wpAny_seqItems hol hdl ?_)
  simp only [Int.toNat_natCast, hx]
  refine wpAny_bind (wpAny_rule (wpAny_bind (wpAny_setField ho hd (by simp) ?_)))
  show wpAny _ _ (newExc (.type "StopIteration") [] >>= _) _ _ _
  refine wpAny_bind ?_
  simp only [newExc, newTuple]
  refine wpAny_bind (wpAny_newObj_type ?_ (by size_fits))
  refine wpAny_bind (m := firstArgMember _ _) (wpAny_of_eq (a := Value.none) (by first | rfl | (simp only [firstArgMember]; rfl)) ?_)
  refine wpAny_newObj_type ?_ (by size_fits)
  simp only [raiseNew]
  refine wpAny_bind (wpAny_handled ?_)
  first | rw [show A.in1.handled = none from hh] | rw [hh]
  refine wpAny_bind (wpAny_pure (wpAny_throw ?_))
  refine wpAny_bind (wpAny_isInstance (T := "StopIteration") (b := true) ⟨_, Heap.get?_push_size _ rfl, rfl⟩ isSubtype_stop ?_)
  exact wpAny_pure (hQ _ (((Heap.SameBut.update ..).extBut.push _).push _) ⟨_, Heap.get?_push_of_some _ (Heap.get?_push_of_some _ (Heap.get?_update_self _ ho (Obj.isFreed_of_fields (Obj.data_mapFields hd _))))⟩)
/-- the loop that fills the list at q -/
theorem loop_tup {A1 : Around} {Rs : Result → Shared → Prop} {q it t : Addr} {zs : List V} (hd : A1.in1.handled = none) (hne : q ≠ it) :
    ∀ (k i : Nat) (H : Hp) (s : Shared), zs.length - i = k → i ≤ zs.length → Inv X pins σ H s → H it = some (ItT t it i) → SqT X.K H t zs → H q = some (.lst (zs.take i)) →
      (∀ s', Inv X pins σ (upd (upd H it (ItTE it)) q (.lst zs)) s' → Rs (.ok (.ret .none)) s') → codeAny (model X.prog X.w) A1 (.builtin "list.extend.loop" ⟨[.ref q, .ref it, .none], []⟩) Rs s := by
  intro k
  induction k with
  | zero =>
    intro i H s hk hi I hit ht hq hR
    obtain ⟨its, rv, pl, hz⟩ := I.tuple ht
    have hin : zs.length = its.length := rv.length
    have mu : Mut (H it) := by rw [hit]; exact True.intro
    refine codeAny_builtin PySem.F.entry_extend_loop ?_
    rw [Around.under_plainId PySem.F.plain_extend_loop _]
    show wpAny _ A1.in1 (pyNext (.ref it) >>= _) _ _ s
    have ei : i = zs.length := by omega
    refine wpAny_bind (next_tup_end hd (itT_get I hit) pl (by rw [List.getElem?_toArray]; exact List.getElem?_eq_none (by omega)) fun h' eb ⟨o, ho⟩ => wpAny_pure ?_)
    have I2 : Inv X pins σ (upd H it (ItTE it)) { s with heap := h' } := I.write (x := it) (e := it) (t' := s.toks) mu (.inl rfl) (fun b o nb z => eb b o nb z) ⟨_, ho⟩ (itTE_ok ho)
    refine hR _ ?_
    have e : upd (upd H it (ItTE it)) q (.lst zs) = upd H it (ItTE it) := by
      funext b
      by_cases hb : b = q
      · rw [hb, upd_same, upd_ne hne, hq, ei, List.take_length]
      · rw [upd_ne hb]
    rw [e]
    exact I2
  | succ k ih =>
    intro i H s hk hi I hit ht hq hR
    obtain ⟨its, rv, pl, hz⟩ := I.tuple ht
    have hin : zs.length = its.length := rv.length
    have mu : Mut (H it) := by rw [hit]; exact True.intro
    have hlt : i < zs.length := by omega
    have hzi := List.getElem?_eq_getElem hlt
    obtain ⟨u, hu, ru⟩ := rv.get hzi
    refine codeAny_builtin PySem.F.entry_extend_loop ?_
    rw [Around.under_plainId PySem.F.plain_extend_loop _]
    show wpAny _ A1.in1 (pyNext (.ref it) >>= _) _ _ s
    refine wpAny_bind (next_tuple_item (itT_get I hit) pl (by rw [List.getElem?_toArray]; exact hu) fun h' hit' sb => ?_)
    obtain ⟨o, ho, _⟩ := id hit'
    have I2 : Inv X pins σ (upd H it (ItT t it (i + 1))) { s with heap := h' } := I.write (x := it) (e := it) (t' := s.toks) mu (.inl rfl) (fun b o nb z => (sb.2 b nb).trans z) ⟨_, ho⟩ (itT_ok hit')
    have hq2 : upd H it (ItT t it (i + 1)) q = some (.lst (zs.take i)) := by rw [upd_ne hne]; exact hq
    show wpAny _ A1.in1 (updateSeq q (·.push u) >>= _) _ _ _
    obtain ⟨z, its2, c, r2, hl, e⟩ := I2.lstM hq2
    have l2 : its2.length ≤ 16777215 := by
      rw [← hl, List.length_take]
      have := hz
      rw [sizeLine_eq] at this
      omega
    refine wpAny_bind (wpAny_updateSeq e rfl (wpAny_pure ⟨plainId_quiet PySem.F.plain_extend_loop _, ?_⟩) (by rw [List.size_toArray, sizeLine_eq]; omega) (by show (its2.toArray.push u).size ≤ sizeLine + 1; rw [Array.size_push, List.size_toArray, sizeLine_eq]; omega))
    have I3 := I2.lset (f := (·.push u)) (its' := its2 ++ [u]) (ys := zs.take i ++ [zs[i]]) (t' := s.toks) hq2 e (by simp) (r2.append (.cons ru .nil)) (by rw [List.length_append, List.length_singleton, List.length_take, sizeLine_eq]; rw [sizeLine_eq] at hz; omega)
    refine ih (i + 1) _ _ (by omega) (by omega) I3 ?_ ?_ ?_ fun s' I4 => hR s' ?_
    · rw [upd_ne (Ne.symm hne), upd_same]
    · exact sqT_upd (sqT_upd ht fun o' xs => ⟨by rw [hit]; exact fun z => (nomatch z), by rw [hit]; exact fun z => (nomatch z)⟩) fun o' xs => ⟨by rw [hq2]; exact fun z => (nomatch z), by rw [hq2]; exact fun z => (nomatch z)⟩
    · rw [upd_same, take_snoc hzi]
    · have e4 : upd (upd (upd (upd H it (ItT t it (i + 1))) q (.lst (zs.take i ++ [zs[i]]))) it (ItTE it)) q (.lst zs) = upd (upd H it (ItTE it)) q (.lst zs) := by
        funext b
        by_cases hb : b = q
        · rw [hb, upd_same, upd_same]
        · rw [upd_ne hb, upd_ne hb]
          by_cases hb2 : b = it
          · rw [hb2, upd_same, upd_same]
          · rw [upd_ne hb2, upd_ne hb2, upd_ne hb, upd_ne hb2]
      rw [← e4]
      exact I4
/-- list(o) -/
def rListIt (K : PySem.W.Frag) (C : Addr) (sp : Sp) (E : XK) : List V → Hp → VK → Prop := fun xs H Q => ∃ a dx fs, xs = [.ref a] ∧ H a = some (.ins C dx fs) ∧
  ∀ q, H q = none → sp [.ref a] (upd H q (.lst [])) (fun v H1 => ∃ (it t : Addr) (zs : List V), v = .ref it ∧ H1 it = some (ItT t it 0) ∧ SqT K H1 t zs ∧ H1 q = some (.lst []) ∧ (∃ dx' fs', H1 a = some (.ins C dx' fs')) ∧ Q (.ref q) (upd (upd H1 it (ItTE it)) q (.lst zs))) E
theorem hint_own {M : Model} {A : Around} {E : Value → Shared → Prop} {s : Shared} {Q : Bool → Shared → Prop} {K : PySem.W.Frag} {C a : Addr} {ox : Obj} {od : Option Obj} (h1 : PySem.W.findIn K (.ref C) "__len__" = some none) (h2 : PySem.W.findIn K (.ref C) "__length_hint__" = some none)
    (hK : K.In s.heap) (J : PySem.W.InstAt s.heap a ox C od) (h : Q true s) : wpAny M A (Builtin.List.listLengthHint (.ref a)) Q E s := by
  unfold Builtin.List.listLengthHint
  refine wpAny_bind (wpAny_bind (J.type.here ((PySem.W.looks_findIn hK h1).here (PySem.W.KFB.if_not rfl (PySem.W.KFB.if_not rfl ?_)))))
  exact wpAny_bind (wpAny_bind (J.type.here ((PySem.W.looks_findIn hK h2).here (wpAny_pure h))))
theorem call_listIt {C f : Addr} {fd : FuncData} {ps : List Str} {sp : Sp} {E : XK} {n : Nat} {CX : CXT} (hs : PySem.W.findIn X.K (.ref C) "__iter__" = some (some (.ref f))) (hfn : PySem.W.isFn X.K (.ref f) = true) (n1 : PySem.W.findIn X.K (.ref C) "__len__" = some none) (n2 : PySem.W.findIn X.K (.ref C) "__length_hint__" = some none)
    (F : FnOk X.prog X.w X.K X.mg X.base CX n f fd ps sp) (hb : Binds X.K fd ps []) (hx : Passes CX X E) (hr : Room (n + 2) X.A) : CallR X (.type "list") (rListIt X.K C sp E) := by
  intro pins s σ H xs us Q I rv h
  obtain ⟨a, dx, fs, rfl, ha, hq⟩ := h
  obtain ⟨u, rfl, ru⟩ := rv.one
  cases ru
  have sb : Sub X n X.A.in1.in1 := (Sub.in1 (Sub.in1 (⟨hr, rfl⟩ : Sub X (n + 2) X.A)))
  refine callType_codes (Q₁ := fun obj s₁ => obj = .ref s.heap.objs.size ∧ s₁ = { s with heap := s.heap.push { cls := .type "list", data := .seq #[] } }) PySem.F.called_list (PySem.F.typeCall_list_1 _) PySem.F.entry_list_init
    (code_list_new _ ⟨rfl, rfl⟩) fun obj s₁ h₁ => ?_
  obtain ⟨rfl, rfl⟩ := h₁
  have hS : (s.heap.push { cls := .type "list", data := .seq #[] }).get? s.heap.objs.size = some { cls := .type "list", data := .seq #[] } := Heap.get?_push_size _ rfl
  refine ⟨⟨_, hS, rfl⟩, PySem.F.args_list_init_2 _ _, ?_⟩
  have fr : H s.heap.objs.size = none := I.hok.fresh (Nat.le_refl _)
  have hsp := hq _ fr
  have I1 : Inv X pins σ (upd H s.heap.objs.size (.lst [])) { s with heap := s.heap.push { cls := .type "list", data := .seq #[] } } := I.lnew (its := []) (t' := s.toks) .nil (Nat.zero_le _)
  show wpAny _ _ (do let old ← Builtin.List.listItems (.ref s.heap.objs.size); Builtin.List.listUpdate (.ref s.heap.objs.size) (fun _ => #[]); letGo old.toList.reverse; Builtin.List.listExtendWith (.ref s.heap.objs.size) (.ref a) .none) _ _ _
  refine wpAny_bind ?_
  unfold Builtin.List.listItems
  refine wpAny_bind (wpAny_seqItems hS rfl (wpAny_pure ?_))
  show wpAny _ _ (updateSeq s.heap.objs.size (fun _ => #[]) >>= fun _ => letGo (#[] : Array Value).toList.reverse >>= fun _ => Builtin.List.listExtendWith (.ref s.heap.objs.size) (.ref a) .none) _ _ _
  refine wpAny_bind (wpAny_updateSeq hS rfl ?_)
  have I2 := I1.lset (f := fun _ => #[]) (its := []) (its' := []) (ys := []) (t' := s.toks) upd_same hS rfl .nil (Nat.zero_le _)
  rw [upd_upd] at I2
  refine wpAny_bind (wpAny_letGo ?_)
  have ha2 : upd H s.heap.objs.size (.lst []) a = some (.ins C dx fs) := by rw [upd_ne (ne_of_none ha fr)]; exact ha
  have hne : s.heap.objs.size ≠ a := Ne.symm (ne_of_none ha fr)
  generalize hH2 : upd H s.heap.objs.size (.lst []) = H2 at *
  generalize s.heap.objs.size = q at *
  obtain ⟨mA, J, _⟩ := ins_get I2.hok ha2
  obtain ⟨od, J, _⟩ := J.look
  obtain ⟨m0, hF⟩ := I2.fr
  unfold Builtin.List.listExtendWith
  refine wpAny_bind (J.type.here ?_)
  have h1 : Builtin.List.listSameRef (.ref q) (.ref a) = false := by simp [Builtin.List.listSameRef, hne]
  have h2 : (Value.ref C == Value.type "list") = false := rfl
  have h3 : (Value.ref C == Value.type "tuple") = false := rfl
  simp only [h1, h2, h3, Bool.or_false, Bool.false_eq_true, if_false]
  refine wpAny_bind (PySem.W.owit_iter hF I2.ok.mod.kin J hs hfn ?_)
  have e0 : ∀ {s : Shared} {H : Hp}, Inv X pins σ H s → Env0 X.prog X.w X.K X.mg X.base X.A.in1.in1 X.stack s H := fun {s H} I => by
    have e := I.env0
    exact ⟨by rw [sb.fr]; exact e.frames, e.mod, e.bs, e.bsz, e.funs, e.frf, e.hok, e.bare⟩
  have hl := F.len _ _ _ _ hsp
  have r2 : Vals [V.ref a] [Value.ref a] := .cons rfl .nil
  refine wpAny_call (codeAny_mono (F.run X.A.in1.in1 X.stack _ _ ⟨[.ref a], []⟩ [.ref a] [.ref a] _ E sb.room (e0 I2) (by
    have := hb _ [.ref a] I2.kIn (by simpa using hl)
    simpa using this) r2 hsp) fun r s' hq' => ?_)
  cases r with
  | error e => exact hx pins σ _ _ e s' I2 hq'
  | ok fl =>
    cases fl with
    | next => exact False.elim hq'
    | brk => exact False.elim hq'
    | cont => exact False.elim hq'
    | ret u =>
      obtain ⟨v, H', I', rv, it, t, zs, ev, hit, ht, hqq, ⟨dx', fs', ha'⟩, hQ⟩ := I2.after hq'
      subst ev
      cases rv
      have hT : s'.TypeIs (.ref it) "tuple_iterator" := (itT_get I' hit).typeIs
      have hqi : q ≠ it := fun z => by
        rw [z, hit] at hqq
        exact (nomatch hqq)
      show wpAny _ _ (specialOf (.ref it) "__next__") _ _ _
      refine wpAny_specialOf hT slot_tupleiter_next.lookup ?_
      obtain ⟨mA', J', _⟩ := ins_get I'.hok ha'
      obtain ⟨od', J', _⟩ := J'.look
      refine wpAny_bind (wpAny_holding (hint_own n1 n2 I'.kIn J' ?_))
      have go : ∀ s'', Inv X pins σ H' s'' → codeAny (model X.prog X.w) X.A.in1 (.builtin "list.extend.loop" ⟨[.ref q, .ref it, .none], []⟩) (wants (fun r s₂ => r = .none ∧ EP X pins σ Q (.ref q) s₂) X.xe) s'' := fun s'' I'' =>
        loop_tup (t := t) (zs := zs) sb.room.hd hqi zs.length 0 H' s'' (by simp) (Nat.zero_le _) I'' hit ht (by rw [hqq]; rfl) fun s3 I3 => ⟨rfl, .ref q, _, I3, rfl, hQ⟩
      obtain ⟨z, its, k, r3, hl3, e3⟩ := I'.lstM hqq
      cases r3
      refine wpAny_ite_split (fun _ => ?_) (fun _ => wpAny_pure ⟨plainId_quiet PySem.F.plain_extend_loop _, go s' I'⟩)
      refine wpAny_bind (wpAny_rule ?_)
      refine wpAny_bind ?_
      show wpAny _ _ (updateSeq q (·.push .none) >>= fun _ => updateSeq q (·.pop)) _ _ _
      refine wpAny_bind (wpAny_updateSeq e3 rfl ?_)
      have I3 := I'.lset (f := (·.push Value.none)) (its' := [Value.none]) (ys := [.non]) (t' := s'.toks) hqq e3 (by simp) (.cons rfl .nil) (by rw [List.length_singleton, sizeLine_eq]; decide)
      obtain ⟨z4, its4, k4, r4, hl4, e4⟩ := I3.lstM upd_same
      obtain ⟨u4, rfl, ru4⟩ := r4.one
      refine wpAny_updateSeq e4 rfl ?_ (by show 1 ≤ sizeLine; rw [sizeLine_eq]; decide) (by show 0 ≤ sizeLine + 1; exact Nat.zero_le _)
      have I4 := I3.lset (f := (·.pop)) (its := [u4]) (its' := []) (ys := []) (t' := s'.toks) upd_same e4 (by rfl) .nil (Nat.zero_le _)
      rw [upd_upd] at I4
      have hH : upd H' q (.lst []) = H' := by
        funext b
        by_cases hb : b = q
        · rw [hb, upd_same, hqq]
        · rw [upd_ne hb]
      rw [hH] at I4
      exact wpAny_pure ⟨plainId_quiet PySem.F.plain_extend_loop _, go _ I4⟩
end
end XL
set_option Elab.async false
set_option linter.all false
set_option maxRecDepth 100000
set_option maxHeartbeats 4000000
/-! XOr: two rules for one piece of text; what classes say of an own error. -/
namespace XL
open PySem PySem.Spec PyProof.Rows L2
section
variable {X : Cx}
theorem pe_or {e : Expr} {t u : TE} (h : PE X e t) (k : PE X e u) : PE X e (fun σ H Q => t σ H Q ∨ u σ H Q) := ⟨fun pins s σ H Q I q => q.elim (h.run pins s σ H Q I) (k.run pins s σ H Q I)⟩
theorem pg_or {e : Expr} {t u : TG} (h : PG X e t) (k : PG X e u) : PG X e (fun v σ H Q => t v σ H Q ∨ u v σ H Q) := ⟨fun pins s σ H v w Q I r q => q.elim (h.run pins s σ H v w Q I r) (k.run pins s σ H v w Q I r)⟩
theorem cr_or {f : Value} {t u : List V → Hp → VK → Prop} (h : CallR X f t) (k : CallR X f u) : CallR X f (fun xs H Q => t xs H Q ∨ u xs H Q) := fun pins s σ H xs us Q I r q => q.elim (h pins s σ H xs us Q I r) (k pins s σ H xs us Q I r)
end
section
variable {P : Program} {w : World} {K : PySem.W.Frag} {mg : Str → Option Value} {base : Heap} {CX : CXT} {k : Nat} {f : Addr} {fd : FuncData} {ps : List Str} {sp sq : Sp}
theorem fn_or (h : FnOk P w K mg base CX k f fd ps sp) (h2 : FnOk P w K mg base CX k f fd ps sq) : FnOk P w K mg base CX k f fd ps (fun vs H Q E => sp vs H Q E ∨ sq vs H Q E) :=
  ⟨fun vs H Q E q => q.elim (h.len vs H Q E) (h2.len vs H Q E), fun A outer s H args us vs Q E hr he hb hv q => q.elim (h.run A outer s H args us vs Q E hr he hb hv) (h2.run A outer s H args us vs Q E hr he hb hv)⟩
end
theorem kit_of {K : PySem.W.Frag} {D C : Addr} {b : Bool} (hne : (Value.ref D == Value.ref C) = false) (h2 : PySem.W.isClsIn K C = true) (h3 : PySem.W.typeIn K (.ref C) = some (.type "type")) (h4 : PySem.W.subIn K (.ref D) (.ref C) = some b) : PySem.W.kitOne K (.ref D) (.ref C) = some b := by
  have e2 : ((PySem.W.clsIn K C).isSome && PySem.W.typeIn K (.ref C) == some (.type "type")) = true := by
    have h2' : (PySem.W.clsIn K C).isSome = true := h2
    rw [h2', h3]
    rfl
  show (if (Value.ref D == Value.ref C) = true then some true else (if ((PySem.W.clsIn K C).isSome && PySem.W.typeIn K (.ref C) == some (.type "type")) = true then PySem.W.subIn K (.ref D) (.ref C) else none)) = some b
  rw [if_neg (by rw [hne]; decide), if_pos e2]
  exact h4
theorem exm_of {K : PySem.W.Frag} {S : Addr} {cls : Value} {b : Bool} (h1 : PySem.W.subIn K (.ref S) (.type "BaseException") = some true) (h2 : PySem.W.isClsIn K S = true) (h3 : PySem.W.typeIn K (.ref S) = some (.type "type")) (h4 : PySem.W.subIn K cls (.ref S) = some b) : PySem.W.exmOne K cls (.ref S) = some b := by
  have e1 : (PySem.W.subIn K (.ref S) (.type "BaseException") == some true) = true := by rw [h1] <;> rfl
  have e2 : ((PySem.W.clsIn K S).isSome && PySem.W.typeIn K (.ref S) == some (.type "type")) = true := by
    have h2' : (PySem.W.clsIn K S).isSome = true := h2
    rw [h2', h3] <;> rfl
  show (if (PySem.W.subIn K (.ref S) (.type "BaseException") == some true) = true then (if ((PySem.W.clsIn K S).isSome && PySem.W.typeIn K (.ref S) == some (.type "type")) = true then PySem.W.subIn K cls (.ref S) else none) else none) = some b
  rw [if_pos e1, if_pos e2]
  exact h4
end XL
set_option Elab.async false
set_option linter.all false
set_option maxRecDepth 100000
set_option maxHeartbeats 4000000
/-! XTxt: texts of small letters; a name that is not used. -/
namespace XL
open PySem PySem.Spec PyProof.Rows L2
def LS : Str := "abcdefghijklmnopqrstuvwxyz"
structure Lt (a b : Nat) (z : Str) : Prop where
  lo : a ≤ z.length
  hi : z.length ≤ b
  ch : ∀ c ∈ z.cps.toList, c ∈ LS.cps.toList
theorem len_tl (z : Str) : z.length = z.cps.toList.length := by
  show z.cps.size = _
  rw [Array.length_toList]
theorem Lt.one {c : Nat} (h : c ∈ LS.cps.toList) : Lt 1 1 ⟨#[c]⟩ := ⟨Nat.le_refl _, Nat.le_refl _, fun d hd => by
  have : d = c := by simpa using hd
  rw [this]
  exact h⟩
theorem Lt.wide {a b a' b' : Nat} {z : Str} (h : Lt a b z) (h1 : a' ≤ a) (h2 : b ≤ b') : Lt a' b' z := ⟨Nat.le_trans h1 h.lo, Nat.le_trans h.hi h2, h.ch⟩
theorem app_len (x y : Str) : (x ++ y).length = x.length + y.length := Str.length_append x y
theorem app_tl (x y : Str) : (x ++ y).cps.toList = x.cps.toList ++ y.cps.toList := by
  rw [Str.cps_append]
  simp
theorem Lt.app {a b c d : Nat} {x y : Str} (h : Lt a b x) (k : Lt c d y) : Lt (a + c) (b + d) (x ++ y) := by
  have h1 := h.lo; have h2 := h.hi; have h3 := k.lo; have h4 := k.hi
  refine ⟨by rw [app_len]; omega, by rw [app_len]; omega, fun e he => ?_⟩
  rw [app_tl] at he
  rcases List.mem_append.mp he with z | z
  · exact h.ch e z
  · exact k.ch e z
theorem cut_mem {z : Str} {lo hi : Option Int} {c : Nat} (h : c ∈ (cutS z lo hi).cps.toList) : c ∈ z.cps.toList := by
  have h2 : c ∈ (z.cps.toList.drop (HT.sIx z.length 0 lo)).take (HT.sIx z.length z.length hi - HT.sIx z.length 0 lo) := by simpa [cutS] using h
  exact List.mem_of_mem_drop (List.mem_of_mem_take h2)
theorem cut_to_len (z : Str) (k : Nat) : (cutS z none (some (k : Int))).length = min k z.length := by
  rw [len_tl]
  show ((z.cps.toList.drop (HT.sIx z.length 0 none)).take (HT.sIx z.length z.length (some (k : Int)) - HT.sIx z.length 0 none)).toArray.toList.length = _
  rw [HT.sIx_nat, HT.sIx_none]
  rw [Nat.sub_zero, List.drop_zero, List.length_take, ← len_tl]
  omega
theorem cut_from_len (z : Str) (k : Nat) (h : k ≤ z.length) : (cutS z (some (k : Int)) none).length = z.length - k := by
  rw [len_tl]
  show ((z.cps.toList.drop (HT.sIx z.length 0 (some (k : Int)))).take (HT.sIx z.length z.length none - HT.sIx z.length 0 (some (k : Int)))).toArray.toList.length = _
  rw [HT.sIx_nat, HT.sIx_none, List.length_take, List.length_drop, ← len_tl]
  omega
theorem Lt.to {a b : Nat} {z : Str} (h : Lt a b z) (k : Nat) : Lt (min k a) (min k b) (cutS z none (some (k : Int))) := by
  have h1 := h.lo; have h2 := h.hi
  exact ⟨by rw [cut_to_len]; omega, by rw [cut_to_len]; omega, fun c hc => h.ch c (cut_mem hc)⟩
theorem joinL_nil : ∀ ps : List (List Nat), TL.joinL [] ps = ps.flatten
  | [] => rfl
  | [p] => by simp [TL.joinL]
  | p :: q :: r => by
    show p ++ ([] ++ TL.joinL [] (q :: r)) = _
    rw [joinL_nil (q :: r)]
    simp
theorem Lt.join {ys : List Str} (h : ∀ y ∈ ys, Lt 1 1 y) : Lt ys.length ys.length (Txt.join "" ys) := by
  have e : (Txt.join "" ys).cps.toList = (ys.map fun y => y.cps.toList).flatten := by
    rw [TL.join_eq]
    exact (TL.tl_join "" ys).trans (joinL_nil _)
  have el : ∀ {ys : List Str}, (∀ y ∈ ys, Lt 1 1 y) → ((ys.map fun y => y.cps.toList).flatten).length = ys.length := by
    intro ys
    induction ys with
    | nil => intro _; rfl
    | cons y r ih =>
      intro h
      have h1 := h y List.mem_cons_self
      have z := ih fun y hy => h y (List.mem_cons_of_mem _ hy)
      have l1 := h1.lo; have l2 := h1.hi
      rw [len_tl] at l1 l2
      rw [List.map_cons, List.flatten_cons, List.length_append, z, List.length_cons]
      omega
  have l := el h
  refine ⟨by rw [len_tl, e, l]; exact Nat.le_refl _, by rw [len_tl, e, l]; exact Nat.le_refl _, fun c hc => ?_⟩
  rw [e] at hc
  obtain ⟨p, hp, hcp⟩ := List.mem_flatten.mp hc
  obtain ⟨y, hy, rfl⟩ := List.mem_map.mp hp
  exact (h y hy).ch c hcp
theorem sum_ones : ∀ {ys : List Str}, (∀ y ∈ ys, Lt 1 1 y) → (ys.map (·.length)).sum = ys.length
  | [], _ => rfl
  | y :: r, h => by
    have h1 := h y List.mem_cons_self
    have z := sum_ones fun y hy => h y (List.mem_cons_of_mem _ hy)
    have l1 := h1.lo; have l2 := h1.hi
    rw [List.map_cons, List.sum_cons, z, List.length_cons]
    omega
/-! ### one that is not used -/
theorem nd_sub {α : Type} [DecidableEq α] : ∀ {xs ys : List α}, xs.Nodup → (∀ x ∈ xs, x ∈ ys) → xs.length ≤ ys.length
  | [], _, _, _ => Nat.zero_le _
  | x :: r, ys, nd, h => by
    have hx := h x List.mem_cons_self
    have nd' := List.nodup_cons.mp nd
    have z := nd_sub (ys := ys.erase x) nd'.2 fun y hy => (List.mem_erase_of_ne (fun e : y = x => nd'.1 (by rw [← e]; exact hy))).mpr (h y (List.mem_cons_of_mem _ hy))
    rw [List.length_erase_of_mem hx] at z
    have : 0 < ys.length := List.length_pos_of_mem hx
    rw [List.length_cons]
    omega
def letter (k : Nat) : Nat := LS.cps.toList.getD k 0
theorem letter_at {k : Nat} (h : k < 26) : LS.cps.toList[k]? = some (letter k) := by
  have z : ∀ j : Nat, j < 26 → LS.cps.toList[j]? = some (letter j) := by decide +kernel
  exact z k h
theorem letter_inj {i j : Nat} (hi : i < 26) (hj : j < 26) (h : letter i = letter j) : i = j := by
  have z : ∀ i : Nat, i < 26 → ∀ j : Nat, j < 26 → letter i = letter j → i = j := by decide +kernel
  exact z i hi j hj h
def tail2 (k : Nat) : Str := (⟨#[letter (k / 26)]⟩ : Str) ++ ⟨#[letter (k % 26)]⟩
theorem tail2_inj {p : Str} {i j : Nat} (hi : i < 676) (hj : j < 676) (h : p ++ tail2 i = p ++ tail2 j) : i = j := by
  have e := congrArg (fun z : Str => z.cps.toList) h
  simp only [app_tl, tail2] at e
  have e2 := List.append_cancel_left e
  have e3 : [letter (i / 26), letter (i % 26)] = [letter (j / 26), letter (j % 26)] := by simpa using e2
  injection e3 with h1 h2
  injection h2 with h2 _
  have a := letter_inj (by omega) (by omega) h1
  have b := letter_inj (by omega) (by omega) h2
  omega
theorem tail2_lt {k : Nat} (h : k < 676) : Lt 2 2 (tail2 k) :=
  (Lt.one (List.mem_of_getElem? (letter_at (by omega)))).app (Lt.one (List.mem_of_getElem? (letter_at (by omega))))
theorem unused (p : Str) (us : List Str) (h : us.length < 676) : ∃ k, k < 676 ∧ p ++ tail2 k ∉ us := by
  apply Classical.byContradiction
  intro no
  have all : ∀ z ∈ (List.range 676).map (fun k => p ++ tail2 k), z ∈ us := fun z hz => by
    obtain ⟨k, hk, rfl⟩ := List.mem_map.mp hz
    apply Classical.byContradiction
    intro q
    exact no ⟨k, List.mem_range.mp hk, q⟩
  have nd : ((List.range 676).map (fun k => p ++ tail2 k)).Nodup := by
    unfold List.Nodup
    rw [List.pairwise_map]
    refine List.Pairwise.imp_of_mem ?_ (List.nodup_range (n := 676))
    intro a b ha hb hab e
    exact hab (tail2_inj (List.mem_range.mp ha) (List.mem_range.mp hb) e)
  have z := nd_sub nd all
  rw [List.length_map, List.length_range] at z
  omega
theorem inV_str {x : Str} (xs : List Str) : inV (.str x) (xs.map V.str) = decide (x ∈ xs) := by
  unfold inV
  induction xs with
  | nil => rfl
  | cons y r ih =>
    rw [List.map_cons, List.any_cons, ih]
    show ((y == x) || decide (x ∈ r)) = decide (x ∈ y :: r)
    by_cases e : x = y
    · subst e; simp
    · have e2 : ¬ y = x := fun q => e q.symm
      simp [e, e2]
theorem strs_flat (xs : List Str) : (xs.map V.str).all flatV = true := by
  rw [List.all_eq_true]
  intro x hx
  obtain ⟨n, _, rfl⟩ := List.mem_map.mp hx
  rfl
end XL
set_option Elab.async false
set_option linter.all false
set_option maxRecDepth 100000
set_option maxHeartbeats 4000000
/-! XLine: C(*row), a method within a try, zip with K said, classes of an own error. -/
namespace XL
open PySem PySem.Spec PyProof.Rows L2
section
variable {X : Cx} {CX : CXT} {k : Nat} {f C : Addr} {fd : FuncData} {ps : List Str} {ds : List Value} {dvs : List V} {sp : Sp} {x m : Str} {p pos apos sp_ : Pos} {e o : Expr} {es : List Expr} {te ta : TE} {t : TA}
def tMakeS (K : PySem.W.Frag) (C : Addr) (sp : Sp) (dvs : List V) (E : XK) (te : TE) : TE := fun σ H Q => te σ H fun y H1 => ∃ a xs, y = V.ref a ∧ (SqT K H1 a xs ∨ SqL K H1 a xs) ∧
  ∀ x dx, H1 x = none → H1 dx = none → dx ≠ x → sp (.ref x :: (xs ++ dvs)) (upd (upd H1 dx (.own x)) x (.ins C dx [])) (fun v H2 => v = .non ∧ Q (.ref x) H2) E
/-- C(*row) -/
theorem pe_makeS {E : XK} (K : PySem.W.Frag) (M : Mk X.K C f) (F : FnOk X.prog X.w X.K X.mg X.base CX k f fd ps sp) (hr : Room (k + 1) X.A) (hg : Gl X x) (hm : X.mg x = some (.ref C)) (hb : Binds X.K fd ps ds) (hd : Vals dvs ds) (hx : Passes CX X E) (he : PE X e te) (hK : X.K = K := by rfl) (hdb : (x == ("__debug__" : Str)) = false := by decide)
    (hst : starEach [.Starred e sp_] X.env = [(true, eval e X.env)] := by rfl) : PE X (.Call (.Name x p) [.Starred e sp_] [] pos) (tMakeS K C sp dvs E te) := by
  subst hK
  refine ⟨fun pins s σ H Q I h => ?_⟩
  refine wpAny_Call_Name_kw (ld_glob I hg hm ?_ hdb)
  refine PySem.W.callWith_S (h₀ := X.base) I.ok.mod.kin M.kp (thn (he.run pins s σ H _ I h) fun v s1 ⟨y, H1, I1, ry, a, xs, ey, hxs, q⟩ => ?_) hst
  subst ey
  obtain rfl : v = Value.ref a := ry
  exact StX.star_any I1 hxs fun us s2 I2 rv => ⟨I2.kIn, run_make M F hr hb hd hx I2 rv q⟩
def tMethS (C : Addr) (m : Str) (sp : Sp) (E : L2.St → XK) (ta : TE) (t : TA) : TE := fun σ H Q => ta σ H fun x H1 => ∃ a dx fs, x = .ref a ∧ H1 a = some (.ins C dx fs) ∧ fs.lookup m = none ∧
  t σ H1 fun vs H2 => sp (x :: vs) H2 Q (E σ)
/-- o.m(..) within a try -/
theorem pe_methT {E : L2.St → XK} {pl : Sem Bool} (he : PE X o ta) (c : Cls X.K C) (hm : Meth X.K C m f) (F : FnOk X.prog X.w X.K X.mg X.base CX k f fd ps sp) (hr : Room k X.A) (hb : Binds X.K fd ps []) (hx : ∀ σ, PassesAt CX X σ (E σ)) (ha : PA X (e :: es) t)
    (hst : starEach (e :: es) X.env = (false, eval e X.env) :: starEach es X.env := by rfl) (hpl : (backTo pos (starEach es X.env)).any (·.1) = false := by rfl)
    (ht : eval (.Call (.Attribute o m apos) (e :: es) [] pos) X.env = (do
      let ov ← eval o X.env
      standAt apos.atName
      let (f, first) ← holding [ov] (getMethod ov m pl)
      callWith pos f first (backTo pos (starEach (e :: es) X.env)) (backToKw pos (keywordEach [] X.env))) := by rfl) :
    PE X (.Call (.Attribute o m apos) (e :: es) [] pos) (tMethS C m sp E ta t) := by
  refine ⟨fun pins s σ H Q I h => ?_⟩
  refine PySem.W.methodCall_KW (pl := pl) (thn (he.run pins s σ H _ I h) fun u s1 ⟨x, H1, I1, rx, a, dx, fs, ex, ea, l, q⟩ => ?_) ht
  subst ex
  obtain rfl : u = Value.ref a := rx
  refine getmeth_ok I1 ea c hm l ?_
  refine PySem.W.callWith_K (first := [.ref a]) (h₀ := X.base) I.ok.mod.kin hm.kp (thn (ha.run pos pins s1 σ H1 _ I1 q) fun us s2 ⟨vs, H2, I2, r, q2⟩ => ⟨I2.kIn, ?_⟩) hst hpl
  exact run_fnS (us := .ref a :: us) (vs := .ref a :: vs) (E := E) F hr hb (hx σ) I2 (.cons rfl r) q2
theorem pe_methT0 {E : L2.St → XK} {pl : Sem Bool} (he : PE X o ta) (c : Cls X.K C) (hm : Meth X.K C m f) (F : FnOk X.prog X.w X.K X.mg X.base CX k f fd ps sp) (hr : Room k X.A) (hb : Binds X.K fd ps []) (hx : ∀ σ, PassesAt CX X σ (E σ))
    (ht : eval (.Call (.Attribute o m apos) [] [] pos) X.env = (do
      let ov ← eval o X.env
      standAt apos.atName
      let (f, first) ← holding [ov] (getMethod ov m pl)
      callWith pos f first (backTo pos (starEach [] X.env)) (backToKw pos (keywordEach [] X.env))) := by rfl) :
    PE X (.Call (.Attribute o m apos) [] [] pos) (tMethS C m sp E ta tNil) := by
  refine ⟨fun pins s σ H Q I h => ?_⟩
  refine PySem.W.methodCall_KW (pl := pl) (thn (he.run pins s σ H _ I h) fun u s1 ⟨x, H1, I1, rx, a, dx, fs, ex, ea, l, q⟩ => ?_) ht
  subst ex
  obtain rfl : u = Value.ref a := rx
  refine getmeth_ok I1 ea c hm l ?_
  exact PySem.W.callWith_K0 (first := [.ref a]) I1.kIn hm.kp (run_fnS (us := [.ref a]) (vs := [.ref a]) (E := E) F hr hb (hx σ) I1 (.cons rfl .nil) q)
theorem pi_zipK {e e2 : Expr} {ta : TA} {p pos tpos : Pos} {elts : List Expr} {kk : Nat} (K : PySem.W.Frag) (hg : Gl X "zip") (hm : X.mg "zip" = none) (ha : PA X [e, e2] ta) (hK : X.K = K := by rfl)
    (hs : starEach [e, e2] X.env = (false, eval e X.env) :: starEach [e2] X.env := by rfl) (hpl : (backTo pos (starEach [e2] X.env)).any (·.1) = false := by rfl) :
    PI X (.Tuple elts kk tpos) (.Call (.Name "zip" p) [e, e2] [] pos) (iZip K ta) := hK ▸ pi_zip hg hm ha hs hpl
end
theorem kit_ty_of {K : PySem.W.Frag} {D : Addr} {T : String} {b : Bool} (h1 : PySem.W.kitMeta T = true) (h2 : PySem.W.subIn K (.ref D) (.type T) = some b) : PySem.W.kitOne K (.ref D) (.type T) = some b := by
  show (if (Value.ref D == Value.type T) = true then some true else (if PySem.W.kitMeta T = true then PySem.W.subIn K (.ref D) (.type T) else none)) = some b
  rw [if_neg (fun h => by cases h), if_pos h1]
  exact h2
end XL
set_option Elab.async false
set_option linter.all false
set_option maxRecDepth 100000
set_option maxHeartbeats 4000000
/-! XHot: a def that raises nothing and walks nothing, called within an except suite. -/
namespace XL
open PySem PySem.Spec PyProof.Rows L2 L2H
/-- what a def promises there -/
structure FnQ (P : Program) (w : World) (K : PySem.W.Frag) (mg : Str → Option Value) (base : Heap) (k : Nat) (f : Addr) (fd : FuncData) (ps : List Str) (sp : Sp) : Prop where
  len : ∀ vs H Q E, sp vs H Q E → vs.length = ps.length
  run : ∀ (A : Around) (outer : List Env) (s : Shared) (H : Hp) (args : Args) (us : List Value) (vs : List V) (Q : VK) (E : XK) (p : Addr × Obj), RoomH k A → PinOk outer H s p → Env0 P w K mg base A outer s H → BindsTo s fd args (ps.zip us) → Vals vs us → sp vs H Q E →
    codeAny (model P w) A (.call (.ref f) args) (CR CX0 outer P w H s Q E) s
theorem okQ {P : Program} {w : World} {K : PySem.W.Frag} {mg : Str → Option Value} {base : Heap} {x qual : Str} {st : Stmt} {f : Addr} {fd : FuncData} {N ps : List Str} {k : Nat} {sp : Sp} (F : Fun K x qual st f fd) (S : FnScope N ps (defScope st)) (len : ∀ vs H Q E, sp vs H Q E → vs.length = ps.length)
    (hbody : ∀ (cdv : Value) (A : Around) (outer : List Env) (s : Shared) (H : Hp) (vs : List V) (Q : VK) (E : XK) (p : Addr × Obj), RoomH k (A.deeper (envOfC qual (defScope st) s.heap.objs.size f cdv)) → sp vs H Q E →
      ∃ t, PSs (cxH CX0 P w K mg base N qual (defScope st) f cdv A outer s H E p) (defBody st) t ∧ t { nx := fun _ H' => Q .non H', rt := Q } (L2.start N vs) H) : FnQ P w K mg base (k + 1) f fd ps sp := by
  obtain ⟨oc, od, kV, doc, pm, an, cdv, ct, osl, rfl, lk, hcd⟩ := F.ex
  refine ⟨len, fun A outer s H args us vs Q E p hr hpin e0 hb r hsp => ?_⟩
  have hl := len _ _ _ _ hsp
  have KX : K.In s.heap := e0.mod.kin.keeps fun b o e => (e0.bs b o e).1
  have lim : s.heap.NoLimit := e0.mod.nolimit.keeps fun b o e => (e0.bs b o e).1
  have hkind : ∀ y ∈ ps.zip us, (defScope st).names.lookup y.1 = some .local ∨ ((defScope st).names.lookup y.1 = some .cell ∧ ((cellsFrom (s.heap.objs.size + 1) (defScope st).names []).lookup y.1).isSome = true) := fun ⟨n, v⟩ hy => by
    rcases S.par n (List.of_mem_zip hy).1 with q | q
    · exact .inl q
    · exact .inr ⟨q, PySem.W.cellsFrom_some _ _ _ (.inl q)⟩
  refine codeAny_call_function hr.depth (KX _ _ lk) rfl S.co S.gen rfl (PySem.W.codeRec_of KX hcd) (hb _ _ _ _ ?_)
  refine wpAny_newFunctionEnv_cells S.kind hkind fun env he s1 x => ?_
  subst he
  refine ⟨lim.keeps x.toInCall.keep, codeAny_func ?_⟩
  obtain ⟨t, ht, hq⟩ := hbody cdv A outer s H vs Q E p (hr.deeper _) hsp
  have I : Inv (cxH CX0 P w K mg base N qual (defScope st) f cdv A outer s H E p) [] (L2.start N vs) H s1 := inv_startH S hpin e0 hl r x
  refine wpAny_mono (ht.run [] s1 (L2.start N vs) H _ I hq) (fun fl s' hs => ?_) fun e s' hs => hs
  have fin : ∀ {σ' : L2.St} {H' : Hp} {v : V} {u : Value}, Inv (cxH CX0 P w K mg base N qual (defScope st) f cdv A outer s H E p) [] σ' H' s' → RelV v u → Q v H' → CE outer P w H s Q u s' :=
    fun {σ' H' v u} J rv q => ⟨v, H', J.os, J.bare, J.base, J.hok, rv, q⟩
  cases fl with
  | ret u =>
    obtain ⟨v, σ', H', J, rv, q⟩ := hs
    exact fin J rv q
  | next =>
    obtain ⟨σ', H', J, q⟩ := hs
    exact fin (v := V.non) (u := Value.none) J rfl q
  | brk =>
    obtain ⟨_, _, _, q⟩ := hs
    exact False.elim q
  | cont =>
    obtain ⟨_, _, _, q⟩ := hs
    exact False.elim q
section
variable {X : Cx} {k : Nat} {f : Addr} {fd : FuncData} {ps : List Str} {sp : Sp} {E : XK} {x : Str} {q pos : Pos} {e : Expr} {es : List Expr} {t : TA}
theorem pe_callQ (F : FnQ X.prog X.w X.K X.mg X.base k f fd ps sp) (hr : RoomH k X.A) (hc : ∃ p, p ∈ X.pn) (hg : Gl X x) (hm : X.mg x = some (.ref f)) (hk : PySem.W.keepIn X.K (.ref f) = true) (hb : Binds X.K fd ps []) (hx : Passes CX0 X E)
    (ha : PA X (e :: es) t) (hdb : (x == ("__debug__" : Str)) = false := by decide) (he : starEach (e :: es) X.env = (false, eval e X.env) :: starEach es X.env := by rfl) (hpl : (backTo pos (starEach es X.env)).any (·.1) = false := by rfl) :
    PE X (.Call (.Name x q) (e :: es) [] pos) (fun σ H Q => t σ H fun vs H1 => sp vs H1 Q E) := by
  refine ⟨fun pins s σ H Q I h => ?_⟩
  refine wpAny_Call_Name_kw (ld_glob I hg hm ?_ hdb)
  refine PySem.W.callWith_K (h₀ := X.base) I.ok.mod.kin hk (thn (ha.run pos pins s σ H _ I h) fun us s1 ⟨vs, H1, I1, r, q⟩ => ⟨I1.kIn, ?_⟩) he hpl
  obtain ⟨p, hp⟩ := hc
  have hl : us.length = ps.length := by rw [← r.length]; exact F.len _ _ _ _ q
  have b := hb s1 us I1.kIn (by rw [List.append_nil]; exact hl)
  rw [List.append_nil] at b
  have P1 := I1.pin p (List.mem_append_left _ hp)
  have hpin : PinOk X.stack H1 s1 p := ⟨P1.1, P1.2.1, fun hm => (List.mem_cons.mp (I1.stkSub p.1 hm)).elim P1.2.2.1 P1.2.2.2.1, P1.2.2.2.2⟩
  refine wpAny_call (codeAny_mono (F.run X.A X.stack s1 H1 ⟨us, []⟩ us vs Q E p hr hpin I1.env0 b r q) fun r s' hq => ?_)
  cases r with
  | error e => exact hx pins σ _ _ e s' I1 hq
  | ok fl =>
    cases fl with
    | ret u => exact I1.after hq
    | next => exact False.elim hq
    | brk => exact False.elim hq
    | cont => exact False.elim hq
end
theorem roomQ {X : Cx} {k j : Nat} {a : Addr} {pn : List (Addr × Obj)} (hr : Room k X.A) (h : j ≤ k) : RoomH j (X.suite a pn).A := ⟨(hr.mono h).dp, (hr.mono h).un⟩
end XL
set_option Elab.async false
set_option linter.all false
set_option maxRecDepth 100000
set_option maxHeartbeats 4000000
/-! XGuard: defs that are called while no repr is under way (Around.guards is known to be empty); repr of data there. -/
namespace XL
open PySem PySem.Spec PyProof.Rows L2
/-- what a def promises when no repr is under way -/
structure FnG (P : Program) (w : World) (K : PySem.W.Frag) (mg : Str → Option Value) (base : Heap) (CX : CXT) (k : Nat) (f : Addr) (fd : FuncData) (ps : List Str) (sp : Sp) : Prop where
  len : ∀ vs H Q E, sp vs H Q E → vs.length = ps.length
  run : ∀ (A : Around) (outer : List Env) (s : Shared) (H : Hp) (args : Args) (us : List Value) (vs : List V) (Q : VK) (E : XK), Room k A → A.guards = some [] → Env0 P w K mg base A outer s H → BindsTo s fd args (ps.zip us) → Vals vs us → sp vs H Q E →
    codeAny (model P w) A (.call (.ref f) args) (CR CX outer P w H s Q E) s
section
variable {P : Program} {w : World} {K : PySem.W.Frag} {mg : Str → Option Value} {base : Heap} {CX : CXT}
theorem FnG.of {k : Nat} {f : Addr} {fd : FuncData} {ps : List Str} {sp : Sp} (F : FnOk P w K mg base CX k f fd ps sp) : FnG P w K mg base CX k f fd ps sp := ⟨F.len, fun A outer s H args us vs Q E hr _ => F.run A outer s H args us vs Q E hr⟩
theorem fnG_of {x qual : Str} {st : Stmt} {f : Addr} {fd : FuncData} {N ps : List Str} {k : Nat} {sp : Sp} (F : Fun K x qual st f fd) (S : FnScope N ps (defScope st)) (len : ∀ vs H Q E, sp vs H Q E → vs.length = ps.length)
    (hbody : ∀ (cdv : Value) (A : Around) (outer : List Env) (s : Shared) (H : Hp) (vs : List V) (Q : VK) (E : XK), Room k (A.deeper (envOfC qual (defScope st) s.heap.objs.size f cdv)) → A.guards = some [] → sp vs H Q E →
      ∃ t, PSs (cxOf CX P w K mg base N qual (defScope st) f cdv A outer s H E) (defBody st) t ∧ t { nx := fun _ H' => Q .non H', rt := Q } (L2.start N vs) H) : FnG P w K mg base CX (k + 1) f fd ps sp := by
  obtain ⟨oc, od, kV, doc, pm, an, cdv, ct, osl, rfl, lk, hcd⟩ := F.ex
  refine ⟨len, fun A outer s H args us vs Q E hr hg e0 hb r hsp => ?_⟩
  have hl := len _ _ _ _ hsp
  have KX : K.In s.heap := e0.mod.kin.keeps fun b o e => (e0.bs b o e).1
  have lim : s.heap.NoLimit := e0.mod.nolimit.keeps fun b o e => (e0.bs b o e).1
  have hkind : ∀ y ∈ ps.zip us, (defScope st).names.lookup y.1 = some .local ∨ ((defScope st).names.lookup y.1 = some .cell ∧ ((cellsFrom (s.heap.objs.size + 1) (defScope st).names []).lookup y.1).isSome = true) := fun ⟨n, v⟩ hy => by
    rcases S.par n (List.of_mem_zip hy).1 with q | q
    · exact .inl q
    · exact .inr ⟨q, PySem.W.cellsFrom_some _ _ _ (.inl q)⟩
  refine codeAny_call_function hr.depth (KX _ _ lk) rfl S.co S.gen rfl (PySem.W.codeRec_of KX hcd) (hb _ _ _ _ ?_)
  refine wpAny_newFunctionEnv_cells S.kind hkind fun env he s1 x => ?_
  subst he
  refine ⟨lim.keeps x.toInCall.keep, codeAny_func ?_⟩
  obtain ⟨t, ht, hq⟩ := hbody cdv A outer s H vs Q E (hr.deeper _) hg hsp
  have I : Inv (cxOf CX P w K mg base N qual (defScope st) f cdv A outer s H E) [] (L2.start N vs) H s1 := inv_start S hr.hd e0 hl r x
  refine wpAny_mono (ht.run [] s1 (L2.start N vs) H _ I hq) (fun fl s' hs => ?_) fun e s' hs => hs
  cases fl with
  | ret u =>
    obtain ⟨v, σ', H', J, rv, q⟩ := hs
    exact ⟨v, H', J.os, J.bare, J.base, J.hok, rv, q⟩
  | next =>
    obtain ⟨σ', H', J, q⟩ := hs
    exact ⟨V.non, H', J.os, J.bare, J.base, J.hok, rfl, q⟩
  | brk =>
    obtain ⟨_, _, _, q⟩ := hs
    exact False.elim q
  | cont =>
    obtain ⟨_, _, _, q⟩ := hs
    exact False.elim q
/-- a def that raises nothing -/
theorem okG {x qual : Str} {st : Stmt} {f : Addr} {fd : FuncData} {N ps : List Str} {k : Nat} {sp : Sp} (F : Fun K x qual st f fd) (S : FnScope N ps (defScope st)) (len : ∀ vs H Q E, sp vs H Q E → vs.length = ps.length)
    (hbody : ∀ (cdv : Value) (A : Around) (outer : List Env) (s : Shared) (H : Hp) (vs : List V) (Q : VK) (E : XK), Room k (A.deeper (envOfC qual (defScope st) s.heap.objs.size f cdv)) → A.guards = some [] → sp vs H Q E →
      ∃ t, PSs (cxOf CX0 P w K mg base N qual (defScope st) f cdv A outer s H E).nox (defBody st) t ∧ t { nx := fun _ H' => Q .non H', rt := Q } (L2.start N vs) H) : FnG P w K mg base CX0 (k + 1) f fd ps sp :=
  fnG_of F S len fun cdv A outer s H vs Q E hr hg hsp => let ⟨t, h, q⟩ := hbody cdv A outer s H vs Q E hr hg hsp; ⟨t, h.nox, q⟩
end
section
variable {X : Cx} {CX : CXT} {k : Nat} {f : Addr} {fd : FuncData} {ps : List Str} {sp : Sp} {E : XK} {x : Str} {p pos : Pos} {e : Expr} {es : List Expr} {t : TA}
theorem run_fnG {pins : List (Addr × Obj)} {σ : L2.St} {H : Hp} {s : Shared} {Q : VK} {us : List Value} {vs : List V} (F : FnG X.prog X.w X.K X.mg X.base CX k f fd ps sp) (hr : Room k X.A) (hg : X.A.guards = some []) (hb : Binds X.K fd ps []) (hx : Passes CX X E)
    (I : Inv X pins σ H s) (r : Vals vs us) (h : sp vs H Q E) : wpAny (model X.prog X.w) X.A (call (.ref f) us) (EP X pins σ Q) X.xe s := by
  have hl : us.length = ps.length := by rw [← r.length]; exact F.len _ _ _ _ h
  have b := hb s us I.kIn (by rw [List.append_nil]; exact hl)
  rw [List.append_nil] at b
  refine wpAny_call (codeAny_mono (F.run X.A X.stack s H ⟨us, []⟩ us vs Q E hr hg I.env0 b r h) fun r s' hq => ?_)
  cases r with
  | error e => exact hx pins σ _ _ e s' I hq
  | ok fl =>
    cases fl with
    | ret u => exact I.after hq
    | next => exact False.elim hq
    | brk => exact False.elim hq
    | cont => exact False.elim hq
theorem pe_callG (F : FnG X.prog X.w X.K X.mg X.base CX k f fd ps sp) (hr : Room k X.A) (hg : X.A.guards = some []) (hgl : Gl X x) (hm : X.mg x = some (.ref f)) (hk : PySem.W.keepIn X.K (.ref f) = true) (hb : Binds X.K fd ps []) (hx : Passes CX X E)
    (ha : PA X (e :: es) t) (hdb : (x == ("__debug__" : Str)) = false := by decide) (he : starEach (e :: es) X.env = (false, eval e X.env) :: starEach es X.env := by rfl) (hpl : (backTo pos (starEach es X.env)).any (·.1) = false := by rfl) :
    PE X (.Call (.Name x p) (e :: es) [] pos) (fun σ H Q => t σ H fun vs H1 => sp vs H1 Q E) := by
  refine ⟨fun pins s σ H Q I h => ?_⟩
  refine wpAny_Call_Name_kw (ld_glob I hgl hm ?_ hdb)
  refine PySem.W.callWith_K (h₀ := X.base) I.ok.mod.kin hk (thn (ha.run pos pins s σ H _ I h) fun us s1 ⟨vs, H1, I1, r, q⟩ => ⟨I1.kIn, ?_⟩) he hpl
  exact run_fnG F hr hg hb hx I1 r q
theorem u70 {k : Nat} {A : Around} (r : Room k A) : A.units + 70 < cLine := by have := r.un; omega
/-- repr of data -/
def rRepr (K : PySem.W.Frag) : List V → Hp → VK → Prop := fun xs H Q => ∃ v d, xs = [v] ∧ Dp K H v d ∧ d.showable = true ∧ d.hasDict = false ∧ d.depth ≤ 64 ∧ d.shown.length ≤ sizeLine ∧ Q (.str d.shown) H
theorem call_reprG (K : PySem.W.Frag) (hg : X.A.guards = some []) (hu : X.A.units + 70 < cLine) (hK : X.K = K := by rfl) : CallR X (.builtin "repr") (rRepr K) := by
  subst hK
  intro pins s σ H xs us Q I r h
  obtain ⟨v, d, rfl, hd, h1, h2, h3, h4, q⟩ := h
  obtain ⟨u, rfl, ru⟩ : ∃ u, us = [u] ∧ RelV v u := by
    cases r with
    | cons a b =>
      cases b
      exact ⟨_, rfl, a⟩
  obtain ⟨as, rd⟩ := Dp.reads I d v u hd ru
  have big : ∀ a : Addr, u = .ref a → wpAny (model X.prog X.w) X.A (call (.builtin "repr") [u]) (EP X pins σ Q) X.xe s := by
    rintro a rfl
    exact repr_of_reads' rd h1 (PyData.noDict_hsm h2) hg (by omega) (fun _ _ e => e) (fun h' t tk hk => ⟨.str d.shown, H, I.kept hk, ⟨_, rfl⟩, q⟩) h4
  cases hd with
  | non =>
    cases ru
    exact PySem.P.repr_of_none ⟨.str _, H, I.tok _, ⟨_, rfl⟩, by simpa only [PyData.shown] using q⟩
  | bl b =>
    cases ru
    exact PySem.P.repr_of_bool ⟨.str _, H, I.tok _, ⟨_, rfl⟩, by simpa only [PyData.shown] using q⟩
  | int i =>
    obtain ⟨t, rfl⟩ := ru
    exact PySem.P.repr_of_int (by simpa [PyData.showable] using h1) ⟨.str _, H, I.tok _, ⟨_, rfl⟩, by simpa only [PyData.shown] using q⟩
  | str x =>
    obtain ⟨t, rfl⟩ := ru
    exact PySem.P.repr_of_str ⟨.str _, H, I.tok _, ⟨_, rfl⟩, by simpa only [PyData.shown] using q⟩ (by simpa only [PyData.shown] using h4)
  | lst _ _ => exact big _ ru
  | tup _ _ => exact big _ ru
end
/-! ### the law's own call -/
theorem law_callG {P : Program} {w : World} {K : PySem.W.Frag} {mg mb : Str → Option Value} {CX : CXT} {k : Nat} {fa a : Addr} {fd : FuncData} {x : Str} {sp : Sp} {s₁ : Shared} {vs : List Value} {ns : List Int}
    (KX : K.In s₁.heap) (hns : s₁.heap.Ns mainGlobals mg) (hb : s₁.heap.Ns builtinsNs mb) (hbb : ∀ x : Str, x ≠ "__name__" → mb x = bootBuiltins x) (hlim : s₁.heap.NoLimit) (hg : s₁.gens = #[])
    (ha : s₁.heap.get? a = some { cls := .type "list", data := .seq vs.toArray }) (hi : IntsAre vs ns) (hl : ns.length ≤ sizeLine) (hr : Room k callerA)
    (F : ∀ base : Heap, K.In base → base.Ns mainGlobals mg → FnG P w K mg base CX k fa fd [x] sp) (hbind : ∀ (s : Shared) (u : Value), BindsTo s fd ⟨[u], []⟩ [(x, u)])
    (hsp : ∀ H : Hp, Only H → SqL K H a (ns.map V.int) → sp [.ref a] H (fun v _ => v = .bl true) fun _ _ _ => False)
    (hCX : ∀ H e s', CX [] H s₁ (fun _ _ _ => False) e s' → False) :
    codeAny (model P w) callerA (.call (.ref fa) ⟨[.ref a], []⟩) (fun r s' => r = .ok (.ret (.bool true)) ∧ OldK s₁.heap s'.heap ∧ s'.os = s₁.os ∧ AllBare s'.gens) s₁ := by
  have rv := vals_ints hi
  have lenV := hi.length
  -- nothing is tracked but the script
  have main : ∀ H : Hp, (∀ b, H b = none ∨ (b = a ∧ K.lookup a = none ∧ H b = some (.frz { cls := .type "list", data := .seq vs.toArray } (.lst (ns.map V.int))))) → SqL K H a (ns.map V.int) → HOk P w H s₁.heap →
      codeAny (model P w) callerA (.call (.ref fa) ⟨[.ref a], []⟩) (fun r s' => r = .ok (.ret (.bool true)) ∧ OldK s₁.heap s'.heap ∧ s'.os = s₁.os ∧ AllBare s'.gens) s₁ := by
    intro H hH hS hok
    have nsK : ∀ {b : Addr} {m : Str → Option Value}, s₁.heap.Ns b m → (hidT s₁.heap H).Ns b m := fun {b m} ⟨o, es, ep, e, d, r⟩ => by
      refine ⟨o, es, ep, hidT_get e ?_, d, r⟩
      rcases hH b with z | ⟨z, _⟩
      · exact z
      · rw [z, ha] at e
        cases e
        cases d
    have hKb : K.In (hidT s₁.heap H) := fun b o e => hidT_get (KX b o e) (by
      rcases hH b with z | ⟨z, z2, _⟩
      · exact z
      · rw [z, z2] at e
        cases e)
    have hM : Mod K mg (hidT s₁.heap H) := ⟨hKb, nsK hns, ⟨mb, nsK hb, hbb⟩, let ⟨mc, h1, h2⟩ := hlim; ⟨mc, nsK h1, h2⟩⟩
    have e0 : Env0 P w K mg (hidT s₁.heap H) callerA [] s₁ H := ⟨rfl, hM, fun b o e => of_hidT e, Nat.le_of_eq (hidT_size _ _), trivial, fun b hb => (nomatch hb), hok, .of_eq hg⟩
    have hO : Only H := fun b => (hH b).imp id fun z => ⟨_, _, z.2.2⟩
    refine codeAny_mono ((F _ hKb (nsK hns)).run callerA [] s₁ H ⟨[.ref a], []⟩ [.ref a] [.ref a] _ _ hr rfl e0 (hbind s₁ (.ref a)) (.cons rfl .nil) (hsp H hO hS)) fun r s' h => ?_
    cases r with
    | error e => exact (hCX H e s' h).elim
    | ok fl =>
      cases fl with
      | next => exact False.elim h
      | brk => exact False.elim h
      | cont => exact False.elim h
      | ret u =>
        obtain ⟨v, H', os, bare, un, hok', r', q⟩ := h
        have q' : v = .bl true := q
        subst q'
        obtain rfl : u = Value.bool true := r'
        refine ⟨rfl, OldK.of_keep fun b o e => ?_, os, bare⟩
        rcases hH b with z | ⟨_, _, z⟩
        · exact un.keep b o e z (fun y => nomatch y) (by simp)
        · obtain ⟨e1, _⟩ := hok b _ z
          obtain ⟨e2, _⟩ := hok' b _ (un.frzs b _ _ z)
          rw [e] at e1
          cases e1
          exact e2
  cases hk : K.lookup a with
  | some o =>
    have e := KX a o hk
    rw [ha] at e
    cases e
    exact main (fun _ => none) (fun _ => .inl rfl) (.inr ⟨_, vs.toArray, _, hk, rfl, rfl, rfl, by rw [List.size_toArray, lenV]; exact hl, by simpa using rv⟩) (fun b u z => nomatch z)
  | none =>
    refine main (fun b => if b = a then some (.frz { cls := .type "list", data := .seq vs.toArray } (.lst (ns.map V.int))) else none) (fun b => ?_) (.inl (.inr ⟨{ cls := .type "list", data := .seq vs.toArray }, if_pos rfl⟩)) (fun b u z => ?_)
    · by_cases hb : b = a
      · exact .inr ⟨hb, hk, if_pos hb⟩
      · exact .inl (if_neg hb)
    · by_cases hb : b = a
      · have z' := (if_pos hb).symm.trans z
        cases z'
        subst hb
        exact ⟨ha, by rw [List.length_map]; exact hl, vs, _, rv, ha⟩
      · have z' := (if_neg hb).symm.trans z
        cases z'
theorem walk_ofG {l : PySem.W.OpenLaw} {n k : Nat} {q : Program} {loose : List Str} {XP : (Str → Option Value) → Heap → Prop} {YP : World → Heap → Prop} {d : DefRec} {K : Params → PySem.W.Frag} {CX : World → CXT} {sp : World → Sp} {x : Str}
    (hn : l.most = some n) (hn2 : n ≤ sizeLine) (hdf : d.params.defaults = []) (hr : Room k callerA)
    (hY : ∀ (w : World) (h : Heap), YP w h → (K w.params).In h)
    (F : ∀ (w : World) (mg : Str → Option Value) (fa : Addr) (h : Heap), (K w.params).In h → h.Ns mainGlobals mg → mg d.name = some (.ref fa) →
      ∃ fd : FuncData, (∀ (s : Shared) (u : Value), BindsTo s fd ⟨[u], []⟩ [(x, u)]) ∧
        ∀ base : Heap, (K w.params).In base → base.Ns mainGlobals mg → FnG l.prog w (K w.params) mg base (CX w) k fa fd [x] (sp w))
    (hsp : ∀ (w : World) (H : Hp) (a : Addr) (ns : List Int), ns.length ≤ n → Only H → SqL (K w.params) H a (ns.map V.int) → sp w [.ref a] H (fun v _ => v = .bl true) fun _ _ _ => False)
    (hCX : ∀ (w : World) (H : Hp) (s : Shared) (e : Value) (s' : Shared), CX w [] H s (fun _ _ _ => False) e s' → False) :
    PySem.W.WalkO q loose XP YP l.row.toRowW d [] (fun f vs => PySem.call f vs) := by
  refine Att.attach_call hn hdf fun w s₀ s₁ mg mb fa o pm cd doc a vs ns G Y ho hd hcd hmg hobj hints hlen hg => ?_
  have KX := hY w _ Y
  obtain ⟨fd, hb, hF⟩ := F w mg fa _ KX G.T.g hmg
  exact law_callG KX G.T.g G.T.b G.T.builtins G.T.nolimit hg hobj hints (Nat.le_trans hlen hn2) hr hF hb (fun H hO hS => hsp w H a ns hlen hO hS) fun H e s' => hCX w H s₁ e s'
end XL
set_option Elab.async false
set_option linter.all false
set_option maxRecDepth 100000
set_option maxHeartbeats 4000000
/-! XStar: defs with a star parameter, called with plain arguments. -/
namespace XL
open PySem PySem.Spec PyProof.Rows L2
/-! ### list.extend of a tuple -/
theorem ext_tup (l : Addr) (items : Array Value) (n : Nat) (b : Addr) (items2 : Array Value) (n2 : Nat) (dc : Option Addr) (sl : Array (Option Value)) (hs0 : ¬(!items.isEmpty && Builtin.List.listTooLong (items.size + items2.size)) = true) (hs1 : items.size ≤ sizeLine) (hs2 : items.size + items2.size ≤ sizeLine + 1) :
    Meets (Builtin.«list.extend» ⟨[.ref l, .ref b], []⟩) (fun _ R s => s.heap.get? l = some { cls := .type "list", dict := none, data := .seq items n, slots := #[] } ∧ s.heap.get? b = some { cls := .type "tuple", dict := dc, data := .seq items2 n2, slots := sl } ∧ R (.ok (.ret Value.none)) { s with heap := s.heap.update l (Obj.mapSeq fun x => x ++ items2), toks := s.toks }) :=
  .of_wp fun prog w A R s h => by
    obtain ⟨hp, g, d, tk, os⟩ := s
    obtain ⟨hl, hb, h⟩ := h
    have f1 := AutoSeq1.idx_int; have f2 := AutoSeq1.sub_tuple_tuple; have f3 := AutoSeq1.sub_list_list; have f4 := AutoSeq1.sub_tuple_list; have f5 := AutoSeq1.sub_list_tuple
    have hz' : (items ++ items2).size ≤ sizeLine + 1 := by rw [Array.size_append]; exact hs2
    wp_walk using (wpAny_updateSeq hl rfl (hz := hs1) (_hz' := hz')), wpAny_loadPart' hl, wpAny_loadPart' hb
    exact ⟨_, rfl, h⟩
def rExtT (K : PySem.W.Frag) : V → List V → Hp → VK → Prop := fun x vs H Q => ∃ l b xs zs, x = .ref l ∧ vs = [.ref b] ∧ H l = some (.lst xs) ∧ SqT K H b zs ∧ xs.length + zs.length ≤ sizeLine ∧ Q .non (upd H l (.lst (xs ++ zs)))
theorem mt_extT {X : Cx} (K : PySem.W.Frag) (hK : X.K = K := by rfl) : MtM X "list.extend" (rExtT K) := by
  subst hK
  intro pins s σ H x vs v us Q I rx rv h
  obtain ⟨l, b, xs, zs, rfl, rfl, hH, hB, hz, q⟩ := h
  cases rx
  obtain ⟨u, rfl, ru⟩ := rv.one
  cases ru
  obtain ⟨z, its, n, r, hl, e⟩ := I.lstM hH
  obtain ⟨its2, r2, ⟨o2, e2, c2, n2, d2⟩, z2⟩ := I.tuple hB
  have hl2 := r2.length
  obtain ⟨oc, od, odt, osl⟩ := o2
  simp only at c2 d2
  subst c2 d2
  have hsz : its.toArray.size + its2.toArray.size ≤ sizeLine := by rw [List.size_toArray, List.size_toArray]; omega
  have hlong : ¬ (!its.toArray.isEmpty && Builtin.List.listTooLong (its.toArray.size + its2.toArray.size)) = true := by
    rw [notLongL hsz, Bool.and_false]
    exact Bool.false_ne_true
  refine call_meets F.slot_list_extend ⟨_, e, rfl⟩ F.entry_list_extend (F.args_list_extend_2 _ _)
    (ext_tup l its.toArray n b its2.toArray n2 od osl hlong (by rw [List.size_toArray]; omega) (by omega)) ⟨e, e2, ?_⟩
  refine ⟨.non, _, I.lset (its' := its ++ its2) hH e (by simp) (r.append r2) ?_, rfl, q⟩
  rw [List.length_append]
  omega
/-- what a def with a star parameter binds -/
def BindsS (fd : FuncData) (ps : List Str) (pv : Str) : Prop := ∀ us rest : List Value, us.length = ps.length → bindArgs fd ⟨us ++ rest, []⟩ = (newTuple rest >>= fun t => pure (ps.zip us ++ [(pv, t)]))
/-- the promise of a def with a star parameter, from that of its body -/
def spS (n : Nat) (sp : Sp) : Sp := fun vs H Q E => ∃ ws rest, vs = ws ++ rest ∧ ws.length = n ∧ rest.length ≤ sizeLine ∧ ∀ p, H p = Option.none → sp (ws ++ [V.ref p]) (upd H p (.tup rest)) Q E
section
variable {P : Program} {w : World} {K : PySem.W.Frag} {mg : Str → Option Value} {base : Heap}
theorem okS {x qual : Str} {st : Stmt} {f : Addr} {fd : FuncData} {N ps : List Str} {pv : Str} {k : Nat} {sp : Sp} (F : Fun K x qual st f fd) (S : FnScope N (ps ++ [pv]) (defScope st)) (hb : BindsS fd ps pv)
    (hbody : ∀ (cdv : Value) (A : Around) (outer : List Env) (s : Shared) (H : Hp) (vs : List V) (Q : VK) (E : XK), Room k (A.deeper (envOfC qual (defScope st) s.heap.objs.size f cdv)) → sp vs H Q E →
      ∃ t, PSs (cxOf CX0 P w K mg base N qual (defScope st) f cdv A outer s H E).nox (defBody st) t ∧ t { nx := fun _ H' => Q .non H', rt := Q } (L2.start N vs) H) : FnR P w K mg base CX0 (k + 1) f (spS ps.length sp) := by
  obtain ⟨oc, od, kV, doc, pm, an, cdv, ct, osl, rfl, lk, hcd⟩ := F.ex
  refine StX.fn_star (pv := pv) (ps := ps) lk hcd S StX.cxUp_none hb fun A outer s H vs Q E hr hsp => ?_
  obtain ⟨t, h, q⟩ := hbody cdv A outer s H vs Q E hr hsp
  exact ⟨t, h.nox, q⟩
end
section
variable {X : Cx} {CX : CXT} {k : Nat} {f : Addr} {sp : Sp} {E : XK} {x : Str} {p pos : Pos} {e : Expr} {es : List Expr} {t : TA}
/-- x(e, ..) by a positional promise -/
theorem pe_callP (F : FnR X.prog X.w X.K X.mg X.base CX k f sp) (hr : Room k X.A) (hgl : Gl X x) (hm : X.mg x = some (.ref f)) (hk : PySem.W.keepIn X.K (.ref f) = true) (hx : Passes CX X E)
    (ha : PA X (e :: es) t) (hdb : (x == ("__debug__" : Str)) = false := by decide) (he : starEach (e :: es) X.env = (false, eval e X.env) :: starEach es X.env := by rfl) (hpl : (backTo pos (starEach es X.env)).any (·.1) = false := by rfl) :
    PE X (.Call (.Name x p) (e :: es) [] pos) (fun σ H Q => t σ H fun vs H1 => sp vs H1 Q E) := by
  refine ⟨fun pins s σ H Q I h => ?_⟩
  refine wpAny_Call_Name_kw (ld_glob I hgl hm ?_ hdb)
  refine PySem.W.callWith_K (h₀ := X.base) I.ok.mod.kin hk (thn (ha.run pos pins s σ H _ I h) fun us s1 ⟨vs, H1, I1, r, q⟩ => ⟨I1.kIn, ?_⟩) he hpl
  exact wpAny_call (run_fnR F hr hx I1 r q)
/-- x() -/
theorem pe_callP0 (F : FnR X.prog X.w X.K X.mg X.base CX k f sp) (hr : Room k X.A) (hgl : Gl X x) (hm : X.mg x = some (.ref f)) (hk : PySem.W.keepIn X.K (.ref f) = true) (hx : Passes CX X E) (hdb : (x == ("__debug__" : Str)) = false := by decide) :
    PE X (.Call (.Name x p) [] [] pos) (fun _ H Q => sp [] H Q E) := by
  refine ⟨fun pins s σ H Q I h => ?_⟩
  refine wpAny_Call_Name_kw (ld_glob I hgl hm ?_ hdb)
  exact PySem.W.callWith_K0 I.kIn hk (wpAny_call (run_fnR (us := []) F hr hx I .nil h))
end
section
variable {B : List Value → Sem (List (Str × Value))} {p1 p2 p3 p4 pv : Str}
theorem bindS0 (h0 : B [] = (newTuple [] >>= fun t => pure [(pv, t)])) (h1 : ∀ r rs, B (r :: rs) = (newTuple (r :: rs) >>= fun t => pure [(pv, t)])) :
    ∀ us rest : List Value, us.length = ([] : List Str).length → B (us ++ rest) = (newTuple rest >>= fun t => pure (([] : List Str).zip us ++ [(pv, t)]))
  | [], [], _ => h0
  | [], r :: rs, _ => h1 r rs
theorem bindS1 (h0 : ∀ a, B [a] = (newTuple [] >>= fun t => pure [(p1, a), (pv, t)])) (h1 : ∀ a r rs, B (a :: r :: rs) = (newTuple (r :: rs) >>= fun t => pure [(p1, a), (pv, t)])) :
    ∀ us rest : List Value, us.length = [p1].length → B (us ++ rest) = (newTuple rest >>= fun t => pure ([p1].zip us ++ [(pv, t)]))
  | [a], [], _ => h0 a
  | [a], r :: rs, _ => h1 a r rs
theorem bindS4 (h0 : ∀ a b c d, B [a, b, c, d] = (newTuple [] >>= fun t => pure [(p1, a), (p2, b), (p3, c), (p4, d), (pv, t)])) (h1 : ∀ a b c d r rs, B (a :: b :: c :: d :: r :: rs) = (newTuple (r :: rs) >>= fun t => pure [(p1, a), (p2, b), (p3, c), (p4, d), (pv, t)])) :
    ∀ us rest : List Value, us.length = [p1, p2, p3, p4].length → B (us ++ rest) = (newTuple rest >>= fun t => pure ([p1, p2, p3, p4].zip us ++ [(pv, t)]))
  | [a, b, c, d], [], _ => h0 a b c d
  | [a, b, c, d], r :: rs, _ => h1 a b c d r rs
end
end XL
set_option Elab.async false
set_option linter.all false
set_option maxRecDepth 100000
set_option maxHeartbeats 4000000
/-! XTree: t[::-1] of a tuple; == of data of more levels; objects whose own __iter__ hands on iter(l), l a list. -/
namespace XL
open PySem PySem.Spec PyProof.Rows L2
section
variable {prog : Program} {w : World} {A : Around} {E : Value → Shared → Prop} {s : Shared}
theorem applied_rev {sl : Addr} {t : Tok} {n : Nat} {Q : Int × Int × Nat → Shared → Prop} (hs : s.heap.IsSliceOf sl .none .none (.int (-1) t)) (h : Q ((n : Int) - 1, -1, n) s) :
    wpAny (model prog w) A (Builtin.Slice.sliceApplied (.ref sl) (pure (n : Int))) Q E s := by
  obtain ⟨os, hos, hcs, hds⟩ := id hs
  unfold Builtin.Slice.sliceApplied Builtin.Slice.sliceFields
  refine wpAny_bind (wpAny_bind (wpAny_field hos hds (x := .none) rfl (wpAny_bind (wpAny_field hos hds (x := .none) rfl (wpAny_bind (wpAny_field hos hds (x := .int (-1) t) rfl (wpAny_pure ?_)))))))
  refine wpAny_bind (HT.slicePart_ (.int (-1) t) ?_)
  show wpAny _ _ (if ((-1 : Int) == 0) = true then _ else _) _ _ s
  rw [if_neg (by decide)]
  refine wpAny_bind (HT.slicePart_ .none (wpAny_bind (HT.slicePart_ .none (wpAny_bind (wpAny_pure ?_)))))
  show wpAny _ _ (pure ((n : Int) - 1, (-1 : Int), Builtin.Slice.slicePlaces ((n : Int) - 1) (-1) (-1))) _ _ s
  have e : Builtin.Slice.slicePlaces ((n : Int) - 1) (-1) (-1) = n := by
    unfold Builtin.Slice.slicePlaces
    have h1 : ¬ ((-1 : Int) > 0) := by decide
    simp only [h1, if_false]
    split
    · rw [show (- -1 : Int) = 1 by decide, Int.ediv_one]
      omega
    · omega
  rw [e]
  exact wpAny_pure h
theorem fm_congr {α β : Type} {f g : α → Option β} : ∀ {l : List α}, (∀ x ∈ l, f x = g x) → l.filterMap f = l.filterMap g
  | [], _ => rfl
  | x :: l, h => by
    rw [List.filterMap_cons, List.filterMap_cons, h x List.mem_cons_self, fm_congr (l := l) fun y hy => h y (List.mem_cons_of_mem _ hy)]
theorem pick_rev (xs : Array Value) : ((List.range xs.size).filterMap fun (k : Nat) => xs[(((xs.size : Int) - 1) + (k : Int) * (-1)).toNat]?).toArray = xs.toList.reverse.toArray := by
  have z := PySem.W.krv_pick xs
  rw [← z]
  unfold slicePick
  rw [PySem.W.krv_bounds]
  show _ = ((sliceRange ((xs.size : Int) - 1) (-1) (-1)).filterMap (xs[·]?)).toArray
  rw [PySem.W.krv_sliceRange, List.filterMap_map]
  congr 1
  refine fm_congr fun k hk => ?_
  have := List.mem_range.mp hk
  have e : (((xs.size : Int) - 1) + (k : Int) * (-1)).toNat = xs.size - 1 - k := by omega
  show xs[_]? = xs[xs.size - 1 - k]?
  rw [e]
theorem getItem_tuple_rev {t sl : Addr} {tk : Tok} {items : Array Value} {Q : Value → Shared → Prop} (ht : IsTup s.heap t items) (hs : s.heap.IsSliceOf sl .none .none (.int (-1) tk))
    (h : Q (.ref s.heap.objs.size) { s with heap := s.heap.push { cls := .type "tuple", data := .seq items.toList.reverse.toArray } }) (hsz : items.size ≤ sizeLine) : wpAny (model prog w) A (getItem (.ref t) (.ref sl)) Q E s := by
  have htake : sizeOk (.seq items.toList.reverse.toArray) := by
    show items.toList.reverse.toArray.size ≤ sizeLine
    rw [List.size_toArray, List.length_reverse, Array.length_toList]
    exact hsz
  obtain ⟨os, hos, hcs, hds⟩ := id hs
  have hTs : s.TypeIs (.ref sl) "slice" := ⟨os, hos, hcs⟩
  unfold getItem
  try with_reducible refine wpAny_holding ?_
  first | refine wpAny_bind (wpAny_pure ?_) | skip
  refine wpAny_bind (wpAny_sequenceKey ht.typeIs (by decide) ?_)
  refine wpAny_bind (wpAny_callSpecial?_slot (name := Str.ofString "__getitem__") ht.typeIs PyProof.Rows.slot_tuple_getitem
    (wpAny_call_entry PyProof.Rows.slot_tuple_getitem ht.typeIs entry_tuple_getitem ?_ (args_tuple_getitem _ _)))
  show wpAny _ _ (Builtin.Tuple.tupleItemsOf (.ref t) >>= _) _ _ s
  refine wpAny_bind (tupleItemsOf_ ht ?_)
  refine wpAny_bind (wpAny_typeOf hTs ?_)
  rw [if_pos (by decide)]
  refine wpAny_bind (applied_rev hs ?_)
  have hno : ¬ (((items.size : Int) - 1 == 0 && (-1 : Int) == 1 && items.size == items.size) = true) := by
    intro q
    rw [Bool.and_eq_true, Bool.and_eq_true] at q
    exact absurd q.1.2 (by decide)
  show wpAny _ _ (if ((items.size : Int) - 1 == 0 && (-1 : Int) == 1 && items.size == items.size) = true then _ else _) _ _ s
  rw [if_neg hno, pick_rev]
  first
    | exact wpAny_bind (m := Builtin.Tuple.tupleExact _) (wpAny_newObj_type (wpAny_pure ⟨_, rfl, wpAny_pure h⟩) htake)
    | exact wpAny_bind (m := Builtin.Tuple.tupleExact _) (wpAny_newObj_type (wpAny_bind (wpAny_pure (wpAny_pure ⟨_, rfl, wpAny_pure h⟩))) htake)
    | exact wpAny_bind (wpAny_bind (m := Builtin.Tuple.tupleExact _) (wpAny_newObj_type (wpAny_pure (wpAny_pure ⟨_, rfl, wpAny_pure h⟩)) htake))
    | exact wpAny_bind (wpAny_bind (m := Builtin.Tuple.tupleExact _) (wpAny_newObj_type (wpAny_pure ⟨_, rfl, wpAny_pure h⟩) htake))
end
def tRevT (K : PySem.W.Frag) (te : TE) : TE := fun σ H Q => te σ H fun x H1 => ∃ a xs, x = .ref a ∧ SqT K H1 a xs ∧ ∀ p, H1 p = none → Q (.ref p) (upd H1 p (.tup xs.reverse))
theorem pe_revT {X : Cx} {e m : Expr} {te : TE} {p2 pos : Pos} (he : PE X e te) (hm : PE X m (tC (.int (-1)))) : PE X (.Subscript e (.Slice none none (some m) p2) pos) (tRevT X.K te) := by
  refine ⟨fun pins s σ H Q I h => ?_⟩
  refine Subscript_ (thn (he.run pins s σ H _ I h) fun v s1 ⟨x, H1, I1, r1, q1⟩ => ?_)
  refine wpAny_Slice (wpAny_evalPart_none (wpAny_evalPart_none (wpAny_evalPart_some (thn (hm.run pins s1 σ H1 (fun y H2 => y = .int (-1) ∧ H2 = H1) I1 ⟨rfl, rfl⟩) fun vm s3 ⟨y, H3, I3, r3, ey, eH⟩ => ?_))))
  subst ey eH
  obtain ⟨t, rfl⟩ := r3
  obtain ⟨a, xs, rfl, hx, q⟩ := q1
  cases r1
  have I4 : L2.Inv X pins σ H3 { s3 with heap := s3.heap.push { cls := .type "slice", data := .fields #[.none, .none, .int (-1) t] } } := I3.kept (t' := s3.toks) fun b ob q => Heap.get?_push_of_some _ q
  obtain ⟨its, r, ht, hz⟩ := I4.tuple hx
  have hlen := r.length
  show wpAny (model X.prog X.w) X.A (subscriptTail e (.Slice none none (some m) p2) (.ref a) (.ref s3.heap.objs.size)) (EP X pins σ Q) X.xe { s3 with heap := s3.heap.push { cls := .type "slice", data := .fields #[.none, .none, .int (-1) t] } }
  refine tail_any (ops := [.ref a, .ref s3.heap.objs.size]) ht.typeIs PyProof.Rows.slot_tuple_getitem.lookup ?_ (by with_unfolding_all rfl)
  refine getItem_tuple_rev ht (Heap.IsSliceOf.new ..) ?_ (by rw [List.size_toArray] <;> omega)
  refine ⟨.ref _, _, I4.laid (t' := s3.toks) (o := .tup xs.reverse) (fun b ob q => Heap.get?_push_of_some _ q) (Nat.le_refl _) ?_, rfl, q _ (I4.hok.fresh (Nat.le_refl _))⟩
  exact ⟨by rw [List.length_reverse]; exact hz, its.reverse, r.reverse, ⟨_, Heap.get?_push_size _ rfl, rfl, _, rfl⟩⟩
theorem pe_revTK {X : Cx} {e m : Expr} {te : TE} {p2 pos : Pos} (K : PySem.W.Frag) (he : PE X e te) (hm : PE X m (tC (.int (-1)))) (h : X.K = K := by rfl) : PE X (.Subscript e (.Slice none none (some m) p2) pos) (tRevT K te) := h ▸ pe_revT he hm
/-! ### == of data of up to 190 levels -/
def rEqL (K : PySem.W.Frag) : R2 := fun x y H Q => ∃ d e, Dp K H x d ∧ Dp K H y e ∧ d.canLay0 = true ∧ e.canLay0 = true ∧ d.depth ≤ 190 ∧ Q (.bl (PyData.eqv d e)) H
theorem op_eqL {X : Cx} (K : PySem.W.Frag) (hu : X.A.units + 190 < cLine) (hK : X.K = K := by rfl) : OpR X (compareOp .Eq) (rEqL K) := by
  subst hK
  intro pins s σ H x y v u Q I rx ry h
  obtain ⟨d, e, hd, he, sd, se, dp, q⟩ := h
  obtain ⟨as, r1⟩ := Dp.reads I d x v hd rx
  obtain ⟨bs, r2⟩ := Dp.reads I e y u he ry
  exact SeqAt.compareEq_reads r1 r2 sd se (by have := Nat.min_le_left d.depth e.depth; omega) ⟨.bl _, H, I, rfl, q⟩
/-! ### a promise that knows how large the heap was -/
structure FnY (P : Program) (w : World) (K : PySem.W.Frag) (mg : Str → Option Value) (base : Heap) (CX : CXT) (k : Nat) (f : Addr) (fd : FuncData) (ps : List Str) (sp : Nat → Sp) : Prop where
  len : ∀ n vs H Q E, sp n vs H Q E → vs.length = ps.length
  run : ∀ (A : Around) (outer : List Env) (s : Shared) (H : Hp) (args : Args) (us : List Value) (vs : List V) (Q : VK) (E : XK), Room k A → Env0 P w K mg base A outer s H → BindsTo s fd args (ps.zip us) → Vals vs us → sp s.heap.objs.size vs H Q E →
    codeAny (model P w) A (.call (.ref f) args) (CR CX outer P w H s Q E) s
section
variable {P : Program} {w : World} {K : PySem.W.Frag} {mg : Str → Option Value} {base : Heap} {CX : CXT}
theorem fnY_of {x qual : Str} {st : Stmt} {f : Addr} {fd : FuncData} {N ps : List Str} {k : Nat} {sp : Nat → Sp} (F : Fun K x qual st f fd) (S : FnScope N ps (defScope st)) (len : ∀ n vs H Q E, sp n vs H Q E → vs.length = ps.length)
    (hbody : ∀ (cdv : Value) (A : Around) (outer : List Env) (s : Shared) (H : Hp) (vs : List V) (Q : VK) (E : XK), Room k (A.deeper (envOfC qual (defScope st) s.heap.objs.size f cdv)) → sp s.heap.objs.size vs H Q E →
      ∃ t, PSs (cxOf CX P w K mg base N qual (defScope st) f cdv A outer s H E) (defBody st) t ∧ t { nx := fun _ H' => Q .non H', rt := Q } (L2.start N vs) H) : FnY P w K mg base CX (k + 1) f fd ps sp := by
  obtain ⟨oc, od, kV, doc, pm, an, cdv, ct, osl, rfl, lk, hcd⟩ := F.ex
  refine ⟨len, fun A outer s H args us vs Q E hr e0 hb r hsp => ?_⟩
  have hl := len _ _ _ _ _ hsp
  have KX : K.In s.heap := e0.mod.kin.keeps fun b o e => (e0.bs b o e).1
  have lim : s.heap.NoLimit := e0.mod.nolimit.keeps fun b o e => (e0.bs b o e).1
  have hkind : ∀ y ∈ ps.zip us, (defScope st).names.lookup y.1 = some .local ∨ ((defScope st).names.lookup y.1 = some .cell ∧ ((cellsFrom (s.heap.objs.size + 1) (defScope st).names []).lookup y.1).isSome = true) := fun ⟨n, v⟩ hy => by
    rcases S.par n (List.of_mem_zip hy).1 with q | q
    · exact .inl q
    · exact .inr ⟨q, PySem.W.cellsFrom_some _ _ _ (.inl q)⟩
  refine codeAny_call_function hr.depth (KX _ _ lk) rfl S.co S.gen rfl (PySem.W.codeRec_of KX hcd) (hb _ _ _ _ ?_)
  refine wpAny_newFunctionEnv_cells S.kind hkind fun env he s1 x => ?_
  subst he
  refine ⟨lim.keeps x.toInCall.keep, codeAny_func ?_⟩
  obtain ⟨t, ht, hq⟩ := hbody cdv A outer s H vs Q E (hr.deeper _) hsp
  have I : Inv (cxOf CX P w K mg base N qual (defScope st) f cdv A outer s H E) [] (L2.start N vs) H s1 := inv_start S hr.hd e0 hl r x
  refine wpAny_mono (ht.run [] s1 (L2.start N vs) H _ I hq) (fun fl s' hs => ?_) fun e s' hs => hs
  cases fl with
  | ret u =>
    obtain ⟨v, σ', H', J, rv, q⟩ := hs
    exact ⟨v, H', J.os, J.bare, J.base, J.hok, rv, q⟩
  | next =>
    obtain ⟨σ', H', J, q⟩ := hs
    exact ⟨V.non, H', J.os, J.bare, J.base, J.hok, rfl, q⟩
  | brk =>
    obtain ⟨_, _, _, q⟩ := hs
    exact False.elim q
  | cont =>
    obtain ⟨_, _, _, q⟩ := hs
    exact False.elim q
theorem okY {x qual : Str} {st : Stmt} {f : Addr} {fd : FuncData} {N ps : List Str} {k : Nat} {sp : Nat → Sp} (F : Fun K x qual st f fd) (S : FnScope N ps (defScope st)) (len : ∀ n vs H Q E, sp n vs H Q E → vs.length = ps.length)
    (hbody : ∀ (cdv : Value) (A : Around) (outer : List Env) (s : Shared) (H : Hp) (vs : List V) (Q : VK) (E : XK), Room k (A.deeper (envOfC qual (defScope st) s.heap.objs.size f cdv)) → sp s.heap.objs.size vs H Q E →
      ∃ t, PSs (cxOf CX0 P w K mg base N qual (defScope st) f cdv A outer s H E).nox (defBody st) t ∧ t { nx := fun _ H' => Q .non H', rt := Q } (L2.start N vs) H) : FnY P w K mg base CX0 (k + 1) f fd ps sp :=
  fnY_of F S len fun cdv A outer s H vs Q E hr hsp => let ⟨t, h, q⟩ := hbody cdv A outer s H vs Q E hr hsp; ⟨t, h.nox, q⟩
end
/-! ### for x in o, o an object whose own __iter__ hands on iter(l) -/
theorem dropH_upd {H : Hp} {a : Addr} {o : HO} (h : H a = none) : ItX.dropH (upd H a o) a = H := by
  funext b
  by_cases e : b = a
  · rw [e, ItX.dropH_same, h]
  · rw [ItX.dropH_ne e, upd_ne e]
def iOwnL (K : PySem.W.Frag) (C : Addr) (sp : Nat → Sp) (E : XK) (te : TE) : TI := fun σ H R => te σ H fun x H1 => ∃ a dx fs, x = .ref a ∧ H1 a = some (.ins C dx fs) ∧
  ∀ n, sp n [.ref a] H1 (fun v H2 => ∃ (it l : Addr), v = .ref it ∧ n ≤ it ∧ H2 it = some (ItO l it 0) ∧ R (Itl K l) (ItX.dropH H2 it)) E
theorem pi_ownL {X : Cx} {CX : CXT} {C f : Addr} {fd : FuncData} {ps : List Str} {sp : Nat → Sp} {E : XK} {n : Nat} {tg e : Expr} {te : TE} (he : PE X e te) (F : FnY X.prog X.w X.K X.mg X.base CX n f fd ps sp)
    (hs : PySem.W.findIn X.K (.ref C) "__iter__" = some (some (.ref f))) (hfn : PySem.W.isFn X.K (.ref f) = true) (hb : Binds X.K fd ps []) (hx : Passes CX X E) (hr : Room n X.A) : PI X tg e (iOwnL X.K C sp E te) := by
  refine ⟨fun pins s σ H R I h => ?_⟩
  refine thn (he.run pins s σ H _ I h) fun u s1 ⟨x, H1, I1, r1, a, dx, fs, ex, ha, hsp0⟩ => ?_
  subst ex
  cases r1
  have hsp := hsp0 s1.heap.objs.size
  obtain ⟨mA, J, _⟩ := ins_get I1.hok ha
  obtain ⟨od, J, _⟩ := J.look
  obtain ⟨m0, hF⟩ := I1.fr
  refine PySem.W.owit_iter hF I1.ok.mod.kin J hs hfn ?_
  have hl := F.len _ _ _ _ _ hsp
  refine wpAny_call (codeAny_mono (F.run X.A X.stack s1 H1 ⟨[.ref a], []⟩ [.ref a] [.ref a] _ E hr I1.env0 (by
    have := hb s1 [.ref a] I1.kIn (by simpa using hl)
    simpa using this) (.cons rfl .nil) hsp) fun r s' hq => ?_)
  cases r with
  | error e => exact hx pins σ _ _ e s' I1 hq
  | ok fl =>
    cases fl with
    | next => exact False.elim hq
    | brk => exact False.elim hq
    | cont => exact False.elim hq
    | ret u =>
      obtain ⟨v, H', I', rv, it, l, ev, young, hit, hR⟩ := I1.after hq
      subst ev
      cases rv
      have eo := itO_get I' hit
      have st : s'.heap.IsListIter it l 0 := ⟨_, eo, rfl, rfl⟩
      show wpAny _ _ (specialOf (.ref it) "__next__") _ _ _
      refine wpAny_specialOf st.typeIs slot_listiter_next.lookup ?_
      have hi' := hit
      unfold ItO at hi'
      refine ⟨it, [it], _, _, ItX.dropH H' it, rfl, ItX.inv_drop I' hi', turn_list l it, st, fun b hb => ?_, hR⟩
      have e : b = it := by simpa using hb
      rw [e]
      exact ItX.inv_fp I' hit (Nat.le_trans I1.sz young)
theorem pi_ownLK {X : Cx} {CX : CXT} {C f : Addr} {fd : FuncData} {ps : List Str} {sp : Nat → Sp} {E : XK} {n : Nat} {tg e : Expr} {te : TE} (K : PySem.W.Frag) (he : PE X e te) (F : FnY X.prog X.w X.K X.mg X.base CX n f fd ps sp)
    (hs : PySem.W.findIn X.K (.ref C) "__iter__" = some (some (.ref f))) (hfn : PySem.W.isFn X.K (.ref f) = true) (hb : Binds X.K fd ps []) (hx : Passes CX X E) (hr : Room n X.A) (h : X.K = K := by rfl) : PI X tg e (iOwnL K C sp E te) := h ▸ pi_ownL he F hs hfn hb hx hr
/-! ### list(o) -/
theorem next_lst_end {P : Program} {w : World} {A : Around} {E : Value → Shared → Prop} {s : Shared} {it t : Addr} {i : Nat} {items : Array Value} {Q : Option Value → Shared → Prop} (hh : A.handled = none)
    (hit : s.heap.IsListIter it t i) (ht : s.heap.IsList t items) (hx : items[i]? = none)
    (hQ : ∀ h', Heap.ExtBut it s.heap h' → (∃ o, h'.get? it = some o) → Q none { s with heap := h' }) : wpAny (model P w) A (pyNext (.ref it)) Q E s := by
  obtain ⟨o, ho, hc, hd⟩ := id hit
  obtain ⟨ol, hol, _, nl, hdl⟩ := ht
  unfold pyNext
  refine wpAny_bind (wpAny_attempt (wpAny_callSpecial?_slot (name := Str.ofString "__next__") hit.typeIs slot_listiter_next (wpAny_call_entry slot_listiter_next hit.typeIs entry_listiter_next ?_ (args_listiter_next _))))
  show wpAny _ _ (field (.ref it) 0 >>= _) _ _ s
  refine wpAny_bind (wpAny_field ho hd (x := .ref t) rfl (PySem.W.KFB.if_not rfl ?_))
  show wpAny _ _ (field (.ref it) 1 >>= _) _ _ s
  refine wpAny_bind (wpAny_field ho hd (x := .int i 0) rfl ?_)
  show wpAny _ _ (seqItems? (.ref t) >>= _) _ _ s
  refine wpAny_bind (wpAny_seqItems hol hdl ?_)
  simp only [Int.toNat_natCast, hx]
  refine wpAny_bind (wpAny_rule (wpAny_bind (wpAny_setField ho hd (by simp) ?_)))
  show wpAny _ _ (newExc (.type "StopIteration") [] >>= _) _ _ _
  refine wpAny_bind ?_
  simp only [newExc, newTuple]
  refine wpAny_bind (wpAny_newObj_type ?_ (by size_fits))
  refine wpAny_bind (m := firstArgMember _ _) (wpAny_of_eq (a := Value.none) (by first | rfl | (simp only [firstArgMember]; rfl)) ?_)
  refine wpAny_newObj_type ?_ (by size_fits)
  simp only [raiseNew]
  refine wpAny_bind (wpAny_handled ?_)
  first | rw [show A.in1.handled = none from hh] | rw [hh]
  refine wpAny_bind (wpAny_pure (wpAny_throw ?_))
  refine wpAny_bind (wpAny_isInstance (T := "StopIteration") (b := true) ⟨_, Heap.get?_push_size _ rfl, rfl⟩ isSubtype_stop ?_)
  exact wpAny_pure (hQ _ (((Heap.SameBut.update ..).extBut.push _).push _) ⟨_, Heap.get?_push_of_some _ (Heap.get?_push_of_some _ (Heap.get?_update_self _ ho (Obj.isFreed_of_fields (Obj.data_mapFields hd _))))⟩)
def ItL (l it : Addr) (i : Nat) : HO := .ext fun h => h.IsListIter it l i
theorem itL_ok {P : Program} {w : World} {H : Hp} {h : Heap} {t it : Addr} {i : Nat} (e : h.IsListIter it t i) : ObjOk P w H h it (ItL t it i) := by
  obtain ⟨o, ho, r⟩ := id e
  exact ⟨e, ⟨_, ho⟩, fun g1 g2 q k => q.at fun o e => k o e⟩
section
variable {X : Cx} {pins : List (Addr × Obj)} {σ : L2.St} {H : Hp} {s : Shared}
theorem itL_get {t it : Addr} {i : Nat} (I : Inv X pins σ H s) (e : H it = some (ItL t it i)) : s.heap.IsListIter it t i := (I.hok it _ e).1
/-- the loop that fills the list at q -/
theorem loop_lst {A1 : Around} {Rs : Result → Shared → Prop} {q it t : Addr} {zs : List V} (hd : A1.in1.handled = none) (hne : q ≠ it) :
    ∀ (k i : Nat) (H : Hp) (s : Shared), zs.length - i = k → i ≤ zs.length → Inv X pins σ H s → H it = some (ItL t it i) → it ≠ t → q ≠ t → H t = some (.lst zs) → H q = some (.lst (zs.take i)) →
      (∀ s', Inv X pins σ (upd (upd H it (ItTE it)) q (.lst zs)) s' → Rs (.ok (.ret .none)) s') → codeAny (model X.prog X.w) A1 (.builtin "list.extend.loop" ⟨[.ref q, .ref it, .none], []⟩) Rs s := by
  intro k
  induction k with
  | zero =>
    intro i H s hk hi I hit nit nqt ht hq hR
    obtain ⟨its, rv, pl, hz⟩ := I.list (SqL.of ht)
    have hin : zs.length = its.length := rv.length
    have mu : Mut (H it) := by rw [hit]; exact True.intro
    refine codeAny_builtin PySem.F.entry_extend_loop ?_
    rw [Around.under_plainId PySem.F.plain_extend_loop _]
    show wpAny _ A1.in1 (pyNext (.ref it) >>= _) _ _ s
    have ei : i = zs.length := by omega
    refine wpAny_bind (next_lst_end hd (itL_get I hit) pl.isList (by rw [List.getElem?_toArray]; exact List.getElem?_eq_none (by omega)) fun h' eb ⟨o, ho⟩ => wpAny_pure ?_)
    have I2 : Inv X pins σ (upd H it (ItTE it)) { s with heap := h' } := I.write (x := it) (e := it) (t' := s.toks) mu (.inl rfl) (fun b o nb z => eb b o nb z) ⟨_, ho⟩ (itTE_ok ho)
    refine hR _ ?_
    have e : upd (upd H it (ItTE it)) q (.lst zs) = upd H it (ItTE it) := by
      funext b
      by_cases hb : b = q
      · rw [hb, upd_same, upd_ne hne, hq, ei, List.take_length]
      · rw [upd_ne hb]
    rw [e]
    exact I2
  | succ k ih =>
    intro i H s hk hi I hit nit nqt ht hq hR
    obtain ⟨its, rv, pl, hz⟩ := I.list (SqL.of ht)
    have hin : zs.length = its.length := rv.length
    have mu : Mut (H it) := by rw [hit]; exact True.intro
    have hlt : i < zs.length := by omega
    have hzi := List.getElem?_eq_getElem hlt
    obtain ⟨u, hu, ru⟩ := rv.get hzi
    refine codeAny_builtin PySem.F.entry_extend_loop ?_
    rw [Around.under_plainId PySem.F.plain_extend_loop _]
    show wpAny _ A1.in1 (pyNext (.ref it) >>= _) _ _ s
    refine wpAny_bind (wpAny_pyNext_list_item (itL_get I hit) pl.isList (by rw [List.getElem?_toArray]; exact hu) fun h' hit' sb => ?_)
    obtain ⟨o, ho, _⟩ := id hit'
    have I2 : Inv X pins σ (upd H it (ItL t it (i + 1))) { s with heap := h' } := I.write (x := it) (e := it) (t' := s.toks) mu (.inl rfl) (fun b o nb z => (sb.2 b nb).trans z) ⟨_, ho⟩ (itL_ok hit')
    have hq2 : upd H it (ItL t it (i + 1)) q = some (.lst (zs.take i)) := by rw [upd_ne hne]; exact hq
    show wpAny _ A1.in1 (updateSeq q (·.push u) >>= _) _ _ _
    obtain ⟨z, its2, c, r2, hl, e⟩ := I2.lstM hq2
    have l2 : its2.length ≤ 16777215 := by
      rw [← hl, List.length_take]
      have := hz
      rw [sizeLine_eq] at this
      omega
    refine wpAny_bind (wpAny_updateSeq e rfl (wpAny_pure ⟨plainId_quiet PySem.F.plain_extend_loop _, ?_⟩) (by rw [List.size_toArray, sizeLine_eq]; omega) (by show (its2.toArray.push u).size ≤ sizeLine + 1; rw [Array.size_push, List.size_toArray, sizeLine_eq]; omega))
    have I3 := I2.lset (f := (·.push u)) (its' := its2 ++ [u]) (ys := zs.take i ++ [zs[i]]) (t' := s.toks) hq2 e (by simp) (r2.append (.cons ru .nil)) (by rw [List.length_append, List.length_singleton, List.length_take, sizeLine_eq]; rw [sizeLine_eq] at hz; omega)
    refine ih (i + 1) _ _ (by omega) (by omega) I3 ?_ nit nqt ?_ ?_ fun s' I4 => hR s' ?_
    · rw [upd_ne (Ne.symm hne), upd_same]
    · rw [upd_ne (Ne.symm nqt), upd_ne (Ne.symm nit)]
      exact ht
    · rw [upd_same, take_snoc hzi]
    · have e4 : upd (upd (upd (upd H it (ItL t it (i + 1))) q (.lst (zs.take i ++ [zs[i]]))) it (ItTE it)) q (.lst zs) = upd (upd H it (ItTE it)) q (.lst zs) := by
        funext b
        by_cases hb : b = q
        · rw [hb, upd_same, upd_same]
        · rw [upd_ne hb, upd_ne hb]
          by_cases hb2 : b = it
          · rw [hb2, upd_same, upd_same]
          · rw [upd_ne hb2, upd_ne hb2, upd_ne hb, upd_ne hb2]
      rw [← e4]
      exact I4
def rListItL (C : Addr) (sp : Nat → Sp) (E : XK) : List V → Hp → VK → Prop := fun xs H Q => ∃ a dx fs, xs = [.ref a] ∧ H a = some (.ins C dx fs) ∧
  ∀ q n, H q = none → sp n [.ref a] (upd H q (.lst [])) (fun v H1 => ∃ (it t : Addr) (zs : List V), v = .ref it ∧ H1 it = some (ItO t it 0) ∧ it ≠ t ∧ q ≠ t ∧ H1 t = some (.lst zs) ∧ H1 q = some (.lst []) ∧ (∃ dx' fs', H1 a = some (.ins C dx' fs')) ∧ Q (.ref q) (upd (upd H1 it (ItTE it)) q (.lst zs))) E
theorem call_listItL {C f : Addr} {fd : FuncData} {ps : List Str} {sp : Nat → Sp} {E : XK} {n : Nat} {CX : CXT} (hs : PySem.W.findIn X.K (.ref C) "__iter__" = some (some (.ref f))) (hfn : PySem.W.isFn X.K (.ref f) = true) (n1 : PySem.W.findIn X.K (.ref C) "__len__" = some none) (n2 : PySem.W.findIn X.K (.ref C) "__length_hint__" = some none)
    (F : FnY X.prog X.w X.K X.mg X.base CX n f fd ps sp) (hb : Binds X.K fd ps []) (hx : Passes CX X E) (hr : Room (n + 2) X.A) : CallR X (.type "list") (rListItL C sp E) := by
  intro pins s σ H xs us Q I rv h
  obtain ⟨a, dx, fs, rfl, ha, hq⟩ := h
  obtain ⟨u, rfl, ru⟩ := rv.one
  cases ru
  have sb : Sub X n X.A.in1.in1 := (Sub.in1 (Sub.in1 (⟨hr, rfl⟩ : Sub X (n + 2) X.A)))
  refine callType_codes (Q₁ := fun obj s₁ => obj = .ref s.heap.objs.size ∧ s₁ = { s with heap := s.heap.push { cls := .type "list", data := .seq #[] } }) PySem.F.called_list (PySem.F.typeCall_list_1 _) PySem.F.entry_list_init
    (code_list_new _ ⟨rfl, rfl⟩) fun obj s₁ h₁ => ?_
  obtain ⟨rfl, rfl⟩ := h₁
  have hS : (s.heap.push { cls := .type "list", data := .seq #[] }).get? s.heap.objs.size = some { cls := .type "list", data := .seq #[] } := Heap.get?_push_size _ rfl
  refine ⟨⟨_, hS, rfl⟩, PySem.F.args_list_init_2 _ _, ?_⟩
  have fr : H s.heap.objs.size = none := I.hok.fresh (Nat.le_refl _)
  have hsp := fun n => hq _ n fr
  have I1 : Inv X pins σ (upd H s.heap.objs.size (.lst [])) { s with heap := s.heap.push { cls := .type "list", data := .seq #[] } } := I.lnew (its := []) (t' := s.toks) .nil (Nat.zero_le _)
  show wpAny _ _ (do let old ← Builtin.List.listItems (.ref s.heap.objs.size); Builtin.List.listUpdate (.ref s.heap.objs.size) (fun _ => #[]); letGo old.toList.reverse; Builtin.List.listExtendWith (.ref s.heap.objs.size) (.ref a) .none) _ _ _
  refine wpAny_bind ?_
  unfold Builtin.List.listItems
  refine wpAny_bind (wpAny_seqItems hS rfl (wpAny_pure ?_))
  show wpAny _ _ (updateSeq s.heap.objs.size (fun _ => #[]) >>= fun _ => letGo (#[] : Array Value).toList.reverse >>= fun _ => Builtin.List.listExtendWith (.ref s.heap.objs.size) (.ref a) .none) _ _ _
  refine wpAny_bind (wpAny_updateSeq hS rfl ?_)
  have I2 := I1.lset (f := fun _ => #[]) (its := []) (its' := []) (ys := []) (t' := s.toks) upd_same hS rfl .nil (Nat.zero_le _)
  rw [upd_upd] at I2
  refine wpAny_bind (wpAny_letGo ?_)
  have ha2 : upd H s.heap.objs.size (.lst []) a = some (.ins C dx fs) := by rw [upd_ne (ne_of_none ha fr)]; exact ha
  have hne : s.heap.objs.size ≠ a := Ne.symm (ne_of_none ha fr)
  generalize hH2 : upd H s.heap.objs.size (.lst []) = H2 at *
  generalize s.heap.objs.size = q at *
  obtain ⟨mA, J, _⟩ := ins_get I2.hok ha2
  obtain ⟨od, J, _⟩ := J.look
  obtain ⟨m0, hF⟩ := I2.fr
  unfold Builtin.List.listExtendWith
  refine wpAny_bind (J.type.here ?_)
  have h1 : Builtin.List.listSameRef (.ref q) (.ref a) = false := by simp [Builtin.List.listSameRef, hne]
  have h2 : (Value.ref C == Value.type "list") = false := rfl
  have h3 : (Value.ref C == Value.type "tuple") = false := rfl
  simp only [h1, h2, h3, Bool.or_false, Bool.false_eq_true, if_false]
  refine wpAny_bind (PySem.W.owit_iter hF I2.ok.mod.kin J hs hfn ?_)
  have e0 : ∀ {s : Shared} {H : Hp}, Inv X pins σ H s → Env0 X.prog X.w X.K X.mg X.base X.A.in1.in1 X.stack s H := fun {s H} I => by
    have e := I.env0
    exact ⟨by rw [sb.fr]; exact e.frames, e.mod, e.bs, e.bsz, e.funs, e.frf, e.hok, e.bare⟩
  have hl := F.len _ _ _ _ _ (hsp 0)
  have r2 : Vals [V.ref a] [Value.ref a] := .cons rfl .nil
  refine wpAny_call (codeAny_mono (F.run X.A.in1.in1 X.stack _ _ ⟨[.ref a], []⟩ [.ref a] [.ref a] _ E sb.room (e0 I2) (by
    have := hb _ [.ref a] I2.kIn (by simpa using hl)
    simpa using this) r2 (hsp _)) fun r s' hq' => ?_)
  cases r with
  | error e => exact hx pins σ _ _ e s' I2 hq'
  | ok fl =>
    cases fl with
    | next => exact False.elim hq'
    | brk => exact False.elim hq'
    | cont => exact False.elim hq'
    | ret u =>
      obtain ⟨v, H', I', rv, it, t, zs, ev, hit, nit, nqt, ht, hqq, ⟨dx', fs', ha'⟩, hQ⟩ := I2.after hq'
      subst ev
      cases rv
      have stt : ∀ s'', Inv X pins σ H' s'' → s''.heap.IsListIter it t 0 := fun s'' I'' => ⟨_, itO_get I'' hit, rfl, rfl⟩
      have hT : s'.TypeIs (.ref it) "list_iterator" := (stt s' I').typeIs
      have hqi : q ≠ it := fun z => by
        rw [z, hit] at hqq
        exact (nomatch hqq)
      show wpAny _ _ (specialOf (.ref it) "__next__") _ _ _
      refine wpAny_specialOf hT slot_listiter_next.lookup ?_
      obtain ⟨mA', J', _⟩ := ins_get I'.hok ha'
      obtain ⟨od', J', _⟩ := J'.look
      refine wpAny_bind (wpAny_holding (hint_own n1 n2 I'.kIn J' ?_))
      have go : ∀ s'', Inv X pins σ H' s'' → codeAny (model X.prog X.w) X.A.in1 (.builtin "list.extend.loop" ⟨[.ref q, .ref it, .none], []⟩) (wants (fun r s₂ => r = .none ∧ EP X pins σ Q (.ref q) s₂) X.xe) s'' := fun s'' I'' =>
by
        have mu : Mut (H' it) := by rw [hit]; exact True.intro
        obtain ⟨oi, ei, _⟩ := id (stt s'' I'')
        have I5 : Inv X pins σ (upd H' it (ItL t it 0)) s'' := I''.write (x := it) (e := it) (t' := s''.toks) mu (.inl rfl) (fun b o nb z => z) ⟨_, ei⟩ (itL_ok (stt s'' I''))
        refine loop_lst (t := t) (zs := zs) sb.room.hd hqi zs.length 0 _ s'' (by simp) (Nat.zero_le _) I5 upd_same nit nqt (by rw [upd_ne (Ne.symm nit)]; exact ht) (by rw [upd_ne hqi, hqq]; rfl) fun s3 I3 => ?_
        rw [upd_upd] at I3
        exact ⟨rfl, .ref q, _, I3, rfl, hQ⟩
      obtain ⟨z, its, k, r3, hl3, e3⟩ := I'.lstM hqq
      cases r3
      refine wpAny_ite_split (fun _ => ?_) (fun _ => wpAny_pure ⟨plainId_quiet PySem.F.plain_extend_loop _, go s' I'⟩)
      refine wpAny_bind (wpAny_rule ?_)
      refine wpAny_bind ?_
      show wpAny _ _ (updateSeq q (·.push .none) >>= fun _ => updateSeq q (·.pop)) _ _ _
      refine wpAny_bind (wpAny_updateSeq e3 rfl ?_)
      have I3 := I'.lset (f := (·.push Value.none)) (its' := [Value.none]) (ys := [.non]) (t' := s'.toks) hqq e3 (by simp) (.cons rfl .nil) (by rw [List.length_singleton, sizeLine_eq]; decide)
      obtain ⟨z4, its4, k4, r4, hl4, e4⟩ := I3.lstM upd_same
      obtain ⟨u4, rfl, ru4⟩ := r4.one
      refine wpAny_updateSeq e4 rfl ?_ (by show 1 ≤ sizeLine; rw [sizeLine_eq]; decide) (by show 0 ≤ sizeLine + 1; exact Nat.zero_le _)
      have I4 := I3.lset (f := (·.pop)) (its := [u4]) (its' := []) (ys := []) (t' := s'.toks) upd_same e4 (by rfl) .nil (Nat.zero_le _)
      rw [upd_upd] at I4
      have hH : upd H' q (.lst []) = H' := by
        funext b
        by_cases hb : b = q
        · rw [hb, upd_same, hqq]
        · rw [upd_ne hb]
      rw [hH] at I4
      exact wpAny_pure ⟨plainId_quiet PySem.F.plain_extend_loop _, go _ I4⟩
end
theorem u190 {k : Nat} {A : Around} (r : Room k A) : A.units + 190 < cLine := by have := r.un; omega
end XL
set_option Elab.async false
set_option linter.all false
set_option maxRecDepth 100000
set_option maxHeartbeats 4000000
/-! XFoc: o.f = v by an own property's setter; C(..) within a try; a call that raises within a def that lets it out; a written tuple. -/
namespace XL
open PySem PySem.Spec PyProof.Rows L2
structure PSet (K : PySem.W.Frag) (C : Addr) (f : Str) (p g : Addr) : Prop where
  tk : PySem.W.takerIn K C f = some (some (.ref p))
  ty : PySem.W.typeIn K (.ref p) = some (.type "property")
  rec_ : ∃ a rest, PySem.W.recIn K p "property" = some (a :: .ref g :: rest)
def sPSet (C : Addr) (sp : Sp) (E : XK) (ta tv : TE) : TS := fun D σ H => tv σ H fun y H1 => ta σ H1 fun x H2 => ∃ a dx fs, x = .ref a ∧ H2 a = some (.ins C dx fs) ∧ sp [.ref a, y] H2 (fun _ H3 => D.nx σ H3) E
section
variable {X : Cx} {CX : CXT} {k : Nat} {C p g : Addr} {f : Str} {fd : FuncData} {ps : List Str} {sp : Sp} {E : XK} {o value : Expr} {pos pos' : Pos} {ta tv : TE}
theorem Room.in2 {k : Nat} {A : Around} (r : Room (k + 2) A) : Room k A.in1.in1 := (Room.in1 (Room.in1 r))
/-- o.f = v, f a property with a setter -/
theorem ps_pset (ha : PE X o ta) (hv : PE X value tv) (c : Cls X.K C) (hp : PSet X.K C f p g) (F : FnOk X.prog X.w X.K X.mg X.base CX k g fd ps sp) (hr : Room (k + 2) X.A) (hb : Binds X.K fd ps []) (hx : Passes CX X E)
    (hs : swapsWith value (some (.Attribute o f pos')) pos.line X.env = pure false) : PS X (.Assign [.Attribute o f pos'] value pos) (sPSet C sp E ta tv) := by
  refine ⟨fun pins s σ H D I h => ?_⟩
  refine plainObj_wpAny_Assign_Attribute (thn (hv.run pins s σ H _ I h) fun u s1 ⟨y, H1, I1, ry, q⟩ => thn (ha.run pins s1 σ H1 _ I1 q) fun ov s2 ⟨x, H2, I2, rx, a, dx, fs, ex, ea, q2⟩ => ?_) hs
  subst ex
  obtain rfl : ov = Value.ref a := rx
  obtain ⟨mA, O, _, _, _, _⟩ := ins_get I2.hok ea
  obtain ⟨od, J, _⟩ := O.look
  obtain ⟨a0, rest, hrec⟩ := hp.rec_
  have I3 := I2.tok (s2.toks + 1)
  have hl : ([Value.ref a, u] : List Value).length = ps.length := by
    rw [← F.len _ _ _ _ q2]
    rfl
  refine PySem.W.set_plain I2.kIn J c.sa (PySem.W.osa_descr PySem.W.KF.slot_pset I3.kIn J c.po hp.tk hp.ty (PySem.W.prop_set I3.kIn hrec ?_))
  have b := hb { s2 with toks := s2.toks + 1 } [.ref a, u] I3.kIn (by rw [List.append_nil]; exact hl)
  rw [List.append_nil] at b
  refine codeAny_mono (F.run X.A.in1.in1 X.stack { s2 with toks := s2.toks + 1 } H2 ⟨[.ref a, u], []⟩ [.ref a, u] [.ref a, y] _ E (Room.in2 hr) I3.env0.in1.in1 b (.cons rfl (.cons ry .nil)) q2) fun r s' hq => ?_
  cases r with
  | error e => exact hx pins σ _ _ e s' I3 hq
  | ok fl =>
    cases fl with
    | ret u =>
      obtain ⟨v, H', I', rv, q3⟩ := I3.after hq
      exact ⟨σ, H', I', q3⟩
    | next => exact False.elim hq
    | brk => exact False.elim hq
    | cont => exact False.elim hq
end
/-- what leaves a def by its own promise -/
theorem passO {X : Cx} {E : XK} (tk : Takes X (fun cls d _ H => E cls d H)) : Passes (L2.CX X.prog X.w) X E := fun pins σ H s e s' I c => passes_call tk (fun _ _ _ _ h => h) pins σ H s e s' I c
section
variable {X : Cx} {CX : CXT} {k : Nat} {f C : Addr} {fd : FuncData} {ps : List Str} {ds : List Value} {dvs : List V} {sp : Sp} {E : L2.St → XK} {x : Str} {p pos : Pos} {e : Expr} {es : List Expr} {t : TA}
theorem run_makeT {pins : List (Addr × Obj)} {σ : L2.St} {H : Hp} {s : Shared} {Q : VK} {us : List Value} {vs : List V} (M : Mk X.K C f) (F : FnOk X.prog X.w X.K X.mg X.base CX k f fd ps sp) (hr : Room (k + 1) X.A) (hb : Binds X.K fd ps ds) (hd : Vals dvs ds)
    (hx : PassesAt CX X σ (E σ)) (I : Inv X pins σ H s) (r : Vals vs us)
    (h : ∀ x dx, H x = none → H dx = none → dx ≠ x → sp (.ref x :: (vs ++ dvs)) (upd (upd H dx (.own x)) x (.ins C dx [])) (fun v H2 => v = .non ∧ Q (.ref x) H2) (E σ)) :
    wpAny (model X.prog X.w) X.A (call (.ref C) us) (EP X pins σ Q) X.xe s := by
  have hq := h (s.heap.objs.size + 1) s.heap.objs.size (I.hok.fresh (Nat.le_succ _)) (I.hok.fresh (Nat.le_refl _)) (Nat.ne_of_lt (Nat.lt_succ_self _))
  have I2 := Inv.made (C := C) I
  have r2 : Vals (V.ref (s.heap.objs.size + 1) :: (vs ++ dvs)) (Value.ref (s.heap.objs.size + 1) :: (us ++ ds)) := .cons rfl (r.append hd)
  have hl : (Value.ref (s.heap.objs.size + 1) :: us ++ ds).length = ps.length := by
    have e := r2.length
    rw [F.len _ _ _ _ hq] at e
    exact e.symm
  refine wpAny_call (make_map (f := f) I.kIn M.makes M.init (beq_iff_eq.mp M.fn) (codeAny_mono (F.run _ X.stack _ _ ⟨Value.ref (s.heap.objs.size + 1) :: us, []⟩ (Value.ref (s.heap.objs.size + 1) :: (us ++ ds)) _ _ (E σ) (hr.make C us [])
    (I2.env0.make C us []) (hb _ (Value.ref (s.heap.objs.size + 1) :: us) I2.kIn hl) r2 hq) fun r s' hq' => ?_))
  cases r with
  | error e => exact hx pins _ _ e s' I2 hq'
  | ok fl =>
    cases fl with
    | ret u =>
      obtain ⟨v, H', I3, rv, ev, q3⟩ := I2.after hq'
      subst ev
      exact ⟨rv, ⟨V.ref (s.heap.objs.size + 1), H', I3, rfl, q3⟩⟩
    | next => exact False.elim hq'
    | brk => exact False.elim hq'
    | cont => exact False.elim hq'
def tMakeT (C : Addr) (sp : Sp) (dvs : List V) (E : L2.St → XK) (t : TA) : TE := fun σ H Q => t σ H fun vs H1 => ∀ x dx, H1 x = none → H1 dx = none → dx ≠ x → sp (.ref x :: (vs ++ dvs)) (upd (upd H1 dx (.own x)) x (.ins C dx [])) (fun v H2 => v = .non ∧ Q (.ref x) H2) (E σ)
/-- C(e, ..) within a try -/
theorem pe_makeT (M : Mk X.K C f) (F : FnOk X.prog X.w X.K X.mg X.base CX k f fd ps sp) (hr : Room (k + 1) X.A) (hg : Gl X x) (hm : X.mg x = some (.ref C)) (hb : Binds X.K fd ps ds) (hd : Vals dvs ds) (hx : ∀ σ, PassesAt CX X σ (E σ))
    (ha : PA X (e :: es) t) (hdb : (x == ("__debug__" : Str)) = false := by decide) (he : starEach (e :: es) X.env = (false, eval e X.env) :: starEach es X.env := by rfl) (hpl : (backTo pos (starEach es X.env)).any (·.1) = false := by rfl) :
    PE X (.Call (.Name x p) (e :: es) [] pos) (tMakeT C sp dvs E t) := by
  refine ⟨fun pins s σ H Q I h => ?_⟩
  refine wpAny_Call_Name_kw (ld_glob I hg hm ?_ hdb)
  refine PySem.W.callWith_K (h₀ := X.base) I.ok.mod.kin M.kp (thn (ha.run pos pins s σ H _ I h) fun us s1 ⟨vs, H1, I1, r, q⟩ => ⟨I1.kIn, ?_⟩) he hpl
  exact run_makeT M F hr hb hd (hx σ) I1 r q
end
/-- the calls of a def with one default: with and without it -/
structure Dfl1 (K : PySem.W.Frag) (fd : FuncData) (ps : List Str) (dv : V) : Prop where
  all : Binds K fd ps []
  one : ∃ ds, Vals [dv] ds ∧ Binds K fd ps ds
end XL
namespace XL
open PySem PySem.Spec PyProof.Rows L2
section
variable {X : Cx} {pos : Pos}
theorem pg_unlK (K : PySem.W.Frag) (n : Nat) {es : List Expr} {k : Nat} {t : TGs} (h : PGs X es t) (hc : X.calm = true := by rfl) (hK : X.K = K := by rfl)
    (hn : (assignEach es X.env).length = n := by rfl) (hst : (assignEach es X.env).findIdx? (·.1) = none := by rfl) : PG X (.Tuple es k pos) (gUnl K n t) := hK ▸ pg_unl hc h hn hst
theorem mt_indexK (K : PySem.W.Frag) (hK : X.K = K := by rfl) : MtR X "list.index" (rIndex K) := hK ▸ mt_index
end
end XL
set_option Elab.async false
set_option linter.all false
set_option maxRecDepth 100000
set_option maxHeartbeats 4000000
/-! XDel: del xs[a:]. -/
namespace XL
open PySem PySem.Spec PyProof.Rows L2
section
variable {prog : Program} {w : World} {A : Around} {E : Value → Shared → Prop} {s : Shared}
def selF (a n : Int) (i : Nat) : Bool := if (1 : Int) > 0 then a ≤ i && i < n && ((i : Int) - a) % 1 == 0 else n < i && i ≤ a && (a - i) % (-1) == 0
theorem selF_eq (a n i : Nat) : selF (a : Int) (n : Int) i = (decide (a ≤ i) && decide (i < n)) := by
  unfold selF
  rw [if_pos (by decide)]
  have h : (((i : Int) - (a : Int)) % 1 == 0) = true := by rw [Int.emod_one]; rfl
  rw [h, Bool.and_true]
  congr 1
  · exact decide_eq_decide.mpr Int.ofNat_le
  · exact decide_eq_decide.mpr Int.ofNat_lt
theorem zip_keep : ∀ (xs : List Value) (j a n : Nat), j + xs.length ≤ n → ((xs.zipIdx j).filterMap fun (p : Value × Nat) => if (selF (a : Int) (n : Int) p.2) = true then none else some p.1) = xs.take (a - j)
  | [], _, _, _, _ => by simp
  | x :: r, j, a, n, h => by
    rw [List.length_cons] at h
    rw [List.zipIdx_cons, List.filterMap_cons, selF_eq]
    have ih := zip_keep r (j + 1) a n (by omega)
    by_cases hj : a ≤ j
    · have e1 : (decide (a ≤ j) && decide (j < n)) = true := by rw [decide_eq_true hj, decide_eq_true (by omega)]; rfl
      have e0 : a - j = 0 := by omega
      have e2 : a - (j + 1) = 0 := by omega
      rw [e2, List.take_zero] at ih
      rw [e0, List.take_zero]
      simp only [e1, if_true]
      exact ih
    · have e1 : (decide (a ≤ j) && decide (j < n)) = false := by rw [decide_eq_false hj]; rfl
      have e0 : a - j = a - (j + 1) + 1 := by omega
      rw [e0, List.take_succ_cons, ← ih]
      simp only [e1, Bool.false_eq_true, if_false]
theorem bounds_from {a n : Nat} (h : a ≤ n) : sliceBounds (some (a : Int)) none none n = ((a : Int), (n : Int), 1) := by
  simp only [sliceBounds, Option.getD_none]
  have h1 : ¬ ((a : Int) < 0) := by omega
  simp only [h1, if_false, show (1 : Int) > 0 by decide, if_true]
  congr 1
  omega
/-- list.__delitem__ with a slice from a place on -/
theorem delItem_from {l sl : Addr} {items : Array Value} {n : Nat} {vl : Value} {a : Nat} {Q : Unit → Shared → Prop}
    (e : s.heap.get? l = some { cls := .type "list", data := .seq items n }) (hs : s.heap.IsSliceOf sl vl .none .none) (pl : IsPart vl (some (a : Int))) (hac : a ≤ items.size) (hsz : items.size ≤ sizeLine)
    (h : Q () { s with heap := s.heap.update l (Obj.mapSeq fun xs => (xs.toList.zipIdx.filterMap fun (p : Value × Nat) => if (selF (a : Int) (items.size : Int) p.2) = true then none else some p.1).toArray) }) :
    wpAny (model prog w) A (delItem (.ref l) (.ref sl)) Q E s := by
  have hl : s.heap.IsList l items := PySem.IsL.isList e
  obtain ⟨os, hos, hcs, hds⟩ := id hs
  have hTs : s.TypeIs (.ref sl) "slice" := ⟨os, hos, hcs⟩
  have hstep : ¬ ((rawPart none == rawInt 0) = true) := Bool.false_ne_true
  have hz' : ((fun xs : Array Value => (xs.toList.zipIdx.filterMap fun (p : Value × Nat) => if (selF (a : Int) (items.size : Int) p.2) = true then none else some p.1).toArray) items).size ≤ sizeLine + 1 := by
    show (_ : List Value).toArray.size ≤ _
    rw [List.size_toArray, zip_keep items.toList 0 a items.size (by rw [Array.length_toList]; omega), List.length_take, Array.length_toList]
    omega
  unfold delItem
  try with_reducible refine wpAny_holding ?_
  first | refine wpAny_bind (wpAny_pure ?_) | skip
  refine wpAny_bind (wpAny_sequenceKey hl.typeIs (by decide) ?_)
  refine wpAny_bind (wpAny_callSpecial?_slot (name := Str.ofString "__delitem__") hl.typeIs PySem.F.slot_list_delitem
    (wpAny_call_entry PySem.F.slot_list_delitem hl.typeIs PySem.F.entry_list_delitem ?_ (PySem.F.args_list_delitem_2 _ _)))
  show wpAny _ _ (Builtin.List.listSubscript? (.ref sl) >>= _) _ _ s
  refine wpAny_bind ?_
  unfold Builtin.List.listSubscript?
  refine wpAny_bind (wpAny_specialOf hTs slice_no_index ?_)
  simp only [Option.isNone_none, if_true]
  refine wpAny_pure ?_
  show wpAny _ _ (typeOf (.ref sl) >>= _) _ _ s
  refine wpAny_bind (wpAny_typeOf hTs ?_)
  first
    | rw [if_neg (by decide)]
    | refine PySem.W.KFB.if_not (by decide) ?_
  rw [listSliceParts_eq]
  refine wpAny_bind (wpAny_bind (wpAny_field hos hds (x := .none) rfl (wpAny_bind (wpAny_listPart .none ?_))))
  rw [if_neg hstep]
  refine wpAny_bind (wpAny_field hos hds (x := vl) rfl (wpAny_bind (wpAny_listPart pl ?_)))
  refine wpAny_bind (wpAny_field hos hds (x := .none) rfl (wpAny_bind (wpAny_listPart .none (wpAny_pure ?_))))
  unfold Builtin.List.listItems
  refine wpAny_bind (wpAny_bind (wpAny_seqItems e rfl (wpAny_pure ?_)))
  refine wpAny_bind (wpAny_of_eq ((sliceIndices_raw (some (a : Int)) none none items.size (by simp)).trans (congrArg (pure : Int × Int × Int → Sem (Int × Int × Int)) (bounds_from hac))) ?_)
  refine wpAny_bind (wpAny_rule ?_)
  show wpAny _ _ (updateSeq l (fun xs => (xs.toList.zipIdx.filterMap fun (p : Value × Nat) => if (selF (a : Int) (items.size : Int) p.2) = true then none else some p.1).toArray) >>= _) _ _ s
  refine wpAny_bind (wpAny_updateSeq (hz := hsz) (_hz' := hz') e rfl ?_)
  refine wpAny_bind (wpAny_letGo ?_)
  first
    | exact wpAny_bind (wpAny_pure (wpAny_pure ⟨.none, rfl, wpAny_pure h⟩))
    | exact wpAny_pure ⟨.none, rfl, wpAny_pure h⟩
end
section
variable {X : Cx} {pos : Pos}
def tDelF (to ti : TE) : TS := fun D σ H => to σ H fun x H1 => ti σ H1 fun y H2 => ∃ (l : Addr) (xs : List V) (k : Nat), x = .ref l ∧ y = .int (k : Nat) ∧ H2 l = some (.lst xs) ∧ k ≤ xs.length ∧ D.nx σ (upd H2 l (.lst (xs.take k)))
theorem ps_delFrom {o lo : Expr} {to ti : TE} {p2 tpos : Pos} (ho : PE X o to) (hi : PE X lo ti) : PS X (.Delete [.Subscript o (.Slice (some lo) none none p2) tpos] pos) (tDelF to ti) := by
  refine ⟨fun pins s σ H D I h => ?_⟩
  refine wpAny_Delete (wpAny_deleteEach_cons (wpAny_delete_Subscript (thn (ho.run pins s σ H _ I h) fun u s1 ⟨x, H1, I1, rx, q1⟩ => ?_)))
  refine wpAny_Slice (wpAny_evalPart_some (thn (hi.run pins s1 σ H1 _ I1 q1) fun iv s2 ⟨y, H2, I2, ry, q2⟩ => wpAny_evalPart_none (wpAny_evalPart_none ?_)))
  obtain ⟨l, xs, k, rfl, rfl, hH, hk, q2⟩ := q2
  cases (show u = Value.ref l from rx)
  obtain ⟨t, rfl⟩ := (show ∃ t, iv = Value.int (k : Nat) t from ry)
  have I4 : L2.Inv X pins σ H2 { s2 with heap := s2.heap.push { cls := .type "slice", data := .fields #[.int (k : Nat) t, .none, .none] } } := I2.kept (t' := s2.toks) fun b ob q => Heap.get?_push_of_some _ q
  obtain ⟨z, its, n, r, hl, e⟩ := I4.lstM hH
  refine delItem_from (a := k) e (Heap.IsSliceOf.new ..) (.int _ _) (by rw [List.size_toArray, ← hl]; exact hk) (by rw [List.size_toArray]; omega) ?_
  refine wpAny_deleteEach_nil ⟨σ, _, I4.lset (its' := its.take k) (t' := s2.toks) hH e ?_ (r.take k) ?_, q2⟩
  · show (_ : List Value).toArray = _
    rw [zip_keep its 0 k _ (by rw [List.size_toArray]; omega)]
    rfl
  · rw [List.length_take]
    omega
end
theorem Sep.setAt {G H : Hp} {M : List (Addr × HO)} {i : Nat} {a : Addr} {o o' : HO} (S : Sep G M H) (h : M[i]? = some (a, o)) : Sep G (M.set i (a, o')) (upd H a o') := by
  have hi := (List.getElem?_eq_some_iff.mp h).1
  have S1 := S.perm (perm_erase h).symm
  have S2 := S1.set (o' := o')
  have e : (M.set i (a, o'))[i]? = some (a, o') := List.getElem?_set_self hi
  have p := perm_erase e
  rw [List.eraseIdx_set_eq] at p
  exact S2.perm p
end XL
namespace XL
open PySem PySem.Spec PyProof.Rows L2
/-! ### a text, several times -/
def repS (x : Str) (k : Nat) : Str := ⟨(List.replicate k x.cps).foldl (· ++ ·) #[]⟩
theorem foldl_cps : ∀ (k : Nat) (a : Array Nat) (x : Array Nat), ((List.replicate k x).foldl (· ++ ·) a).toList = a.toList ++ (List.replicate k x.toList).flatten
  | 0, a, x => by simp
  | k + 1, a, x => by
    rw [List.replicate_succ, List.foldl_cons, foldl_cps k, List.replicate_succ, List.flatten_cons]
    simp
theorem repS_tl (x : Str) (k : Nat) : (repS x k).cps.toList = (List.replicate k x.cps.toList).flatten := by
  have := foldl_cps k #[] x.cps
  simpa [repS] using this
theorem repS_len (x : Str) : ∀ k : Nat, (repS x k).length = k * x.length := by
  intro k
  rw [len_tl, repS_tl]
  induction k with
  | zero => simp
  | succ k ih =>
    rw [List.replicate_succ, List.flatten_cons, List.length_append, ih, ← len_tl, Nat.succ_mul]
    omega
theorem repS_mem {x : Str} {k c : Nat} (h : c ∈ (repS x k).cps.toList) : c ∈ x.cps.toList := by
  rw [repS_tl] at h
  obtain ⟨l, hl, hc⟩ := List.mem_flatten.mp h
  rw [(List.mem_replicate.mp hl).2] at hc
  exact hc
def yMulS : R2 := fun x y H Q => match x, y with
  | .str z, .int k => 2 ≤ k ∧ k ≤ 1000 ∧ 1 ≤ z.length ∧ z.length ≤ 1000 ∧ Q (.str (repS z k.toNat)) H
  | _, _ => False
theorem op_mulS {X : Cx} : OpR X (binaryOp .Mult) yMulS := by
  intro pins s σ H x y v u Q I rx ry h
  unfold yMulS at h
  split at h
  · rename_i z k
    obtain ⟨h1, h2, h3, h4, q⟩ := h
    obtain ⟨t, rfl⟩ := rx
    obtain ⟨t', rfl⟩ := ry
    have hk : ¬ k < 1 := by omega
    have hc : (k == 1 || z.length == 0) = false := by
      rw [Bool.or_eq_false_iff]
      exact ⟨beq_eq_false_iff_ne.mpr (by omega), beq_eq_false_iff_ne.mpr (by omega)⟩
    have hl : z.length * k.toNat ≤ 1000 * 1000 := Nat.mul_le_mul h4 (by omega)
    refine P.mul_str (by rw [decide_eq_false (by omega), decide_eq_false (by omega)]; rfl) (fun _ _ h => ?_) (fun _ _ => ?_) ?_
    · have : (z.length : Int) ≤ (2 ^ 63 - 1) / k := by
        rw [Int.le_ediv_iff_mul_le (by omega)]
        have e : (z.length : Int) * k = ((z.length * k.toNat : Nat) : Int) := by rw [Int.natCast_mul, Int.toNat_of_nonneg (by omega)]
        rw [e]
        omega
      omega
    · unfold Builtin.Str.tooLong
      exact decide_eq_false (by rw [sizeLine_eq]; omega)
    · rw [if_neg hk, if_neg (by rw [hc]; decide)]
      refine ⟨?_, .str (repS z k.toNat), H, I.tok _, ⟨_, rfl⟩, q⟩
      show (repS z k.toNat).length ≤ sizeLine
      rw [repS_len, sizeLine_eq, Nat.mul_comm]
      omega
  · exact h.elim
end XL
set_option Elab.async false
set_option linter.all false
set_option maxRecDepth 100000
set_option maxHeartbeats 4000000
/-! XPage: x in o by an own __contains__. -/
namespace XL
open PySem PySem.Spec PyProof.Rows L2
section
variable {X : Cx} {CX : CXT} {C f : Addr} {fd : FuncData} {ps : List Str} {sp : Sp} {E : XK} {n : Nat}
def yInO (C : Addr) (sp : Sp) (E : XK) (ng : Bool) : R2 := fun x y H Q => ∃ a dx fs, y = .ref a ∧ H a = some (.ins C dx fs) ∧ sp [.ref a, x] H (fun v H' => match v with
  | .bl b => Q (.bl (if ng = true then !b else b)) H'
  | _ => False) E
theorem op_inO (F : FnOk X.prog X.w X.K X.mg X.base CX n f fd ps sp) (hs : PySem.W.findIn X.K (.ref C) "__contains__" = some (some (.ref f))) (hf : PySem.W.isFn X.K (.ref f) = true) (hb : Binds X.K fd ps []) (hx : Passes CX X E) (hr : Room n X.A) : OpR X (compareOp .In) (yInO C sp E false) := by
  intro pins s σ H x y u v Q I rx ry h
  obtain ⟨a, dx, fs, rfl, ha, hsp⟩ := h
  cases ry
  obtain ⟨mA, J1, _⟩ := ins_get I.hok ha
  obtain ⟨od, J1, _⟩ := J1.look
  obtain ⟨m, hF⟩ := I.fr
  refine PySem.W.in_K hF I.ok.mod.kin J1 hs hf (wpAny_mono (run_fn (us := [.ref a, u]) (vs := [.ref a, x]) (dvs := []) F hr hb .nil hx I (.cons rfl (.cons rx .nil)) hsp) (fun r s' q => ?_) fun _ _ e => e)
  obtain ⟨z, H', I', rz, q⟩ := q
  cases z with
  | bl b =>
    cases rz
    exact wpAny_truthy_bool ⟨.bl b, H', I', rfl, q⟩
  | _ => exact q.elim
theorem op_ninO (F : FnOk X.prog X.w X.K X.mg X.base CX n f fd ps sp) (hs : PySem.W.findIn X.K (.ref C) "__contains__" = some (some (.ref f))) (hf : PySem.W.isFn X.K (.ref f) = true) (hb : Binds X.K fd ps []) (hx : Passes CX X E) (hr : Room n X.A) : OpR X (compareOp .NotIn) (yInO C sp E true) := by
  intro pins s σ H x y u v Q I rx ry h
  obtain ⟨a, dx, fs, rfl, ha, hsp⟩ := h
  cases ry
  obtain ⟨mA, J1, _⟩ := ins_get I.hok ha
  obtain ⟨od, J1, _⟩ := J1.look
  obtain ⟨m, hF⟩ := I.fr
  refine PySem.W.notIn_K hF I.ok.mod.kin J1 hs hf (wpAny_mono (run_fn (us := [.ref a, u]) (vs := [.ref a, x]) (dvs := []) F hr hb .nil hx I (.cons rfl (.cons rx .nil)) hsp) (fun r s' q => ?_) fun _ _ e => e)
  obtain ⟨z, H', I', rz, q⟩ := q
  cases z with
  | bl b =>
    cases rz
    exact wpAny_truthy_bool ⟨.bl (!b), H', I', rfl, q⟩
  | _ => exact q.elim
end
theorem _root_.L2.Room.u190 {k : Nat} {A : Around} (r : L2.Room k A) : A.units + 190 < cLine := by have := r.un; omega
/-! ### == and != of data of up to 190 levels, and of plain values -/
def rNeL (K : PySem.W.Frag) : R2 := fun x y H Q => ∃ d e, Dp K H x d ∧ Dp K H y e ∧ d.canLay0 = true ∧ e.canLay0 = true ∧ d.depth ≤ 190 ∧ Q (.bl (!PyData.eqv d e)) H
theorem op_neL {X : Cx} (K : PySem.W.Frag) (hu : X.A.units + 190 < cLine) (hK : X.K = K := by rfl) : OpR X (compareOp .NotEq) (rNeL K) := by
  subst hK
  intro pins s σ H x y v u Q I rx ry h
  obtain ⟨d, e, hd, he, sd, se, dp, q⟩ := h
  obtain ⟨as, r1⟩ := Dp.reads I d x v hd rx
  obtain ⟨bs, r2⟩ := Dp.reads I e y u he ry
  exact SeqAt.compareNe_reads r1 r2 sd se (by have := Nat.min_le_left d.depth e.depth; omega) ⟨.bl _, H, I, rfl, q⟩
def yEqL (K : PySem.W.Frag) : R2 := fun x y H Q => match x, y with
  | .int i, .int j => Q (.bl (decide (i = j))) H
  | .str i, .str j => Q (.bl (decide (i = j))) H
  | .bl i, .bl j => Q (.bl (decide (i = j))) H
  | .ref a, .ref b => rEqL K (.ref a) (.ref b) H Q
  | x, y => scal x y = true ∧ Q (.bl (decide (x = y))) H
def yNeL (K : PySem.W.Frag) : R2 := fun x y H Q => match x, y with
  | .int i, .int j => Q (.bl (!decide (i = j))) H
  | .str i, .str j => Q (.bl (!decide (i = j))) H
  | .bl i, .bl j => Q (.bl (!decide (i = j))) H
  | .ref a, .ref b => rNeL K (.ref a) (.ref b) H Q
  | x, y => scal x y = true ∧ Q (.bl (!decide (x = y))) H
theorem op_eqLK {X : Cx} (K : PySem.W.Frag) (hu : X.A.units + 190 < cLine) (hK : X.K = K := by rfl) : OpR X (compareOp .Eq) (yEqL K) := by
  refine or_str (OpR.or (op_eq (X := X)) (op_eqL K hu hK)) fun x y H Q h => ?_
  unfold yEqL at h
  split at h
  · exact .inl ⟨rfl, by rw [deci]; exact h⟩
  · exact .inl ⟨rfl, by rw [decs]; exact h⟩
  · exact .inl ⟨rfl, by rw [decb]; exact h⟩
  · exact .inr h
  · exact .inl h
theorem op_neLK {X : Cx} (K : PySem.W.Frag) (hu : X.A.units + 190 < cLine) (hK : X.K = K := by rfl) : OpR X (compareOp .NotEq) (yNeL K) := by
  refine or_str (OpR.or (op_ne (X := X)) (op_neL K hu hK)) fun x y H Q h => ?_
  unfold yNeL at h
  split at h
  · exact .inl ⟨rfl, by rw [deci]; exact h⟩
  · exact .inl ⟨rfl, by rw [decs]; exact h⟩
  · exact .inl ⟨rfl, by rw [decb]; exact h⟩
  · exact .inr h
  · exact .inl h
end XL
set_option Elab.async false
set_option linter.all false
set_option maxRecDepth 100000
set_option maxHeartbeats 4000000
/-! XCnt: xs.count(x) of data. -/
namespace XL
open PySem PySem.Spec PyProof.Rows L2
theorem _root_.L2.Room.u65 {k : Nat} {A : Around} (r : L2.Room k A) : A.units + 65 < cLine := by have := r.un; omega
def rCntD (K : PySem.W.Frag) : V → List V → Hp → VK → Prop := fun x xs H Q => ∃ (a : Addr) (y : V) (ys : List V) (d : PyData) (ds : List PyData), x = V.ref a ∧ xs = [y] ∧ SqL K H a ys ∧ DpAll K H ys ds ∧ Dp K H y d ∧
  PyData.canLayAll0 ds = true ∧ SeqAt.shaped d = true ∧ Q (.int ((ds.countP fun z => PyData.eqv z d : Nat) : Int)) H
theorem mt_countD {X : Cx} (K : PySem.W.Frag) (hu : X.A.units + 65 < cLine) (h : X.K = K := by rfl) : MtR X "list.count" (rCntD K) := by
  subst h
  intro pins s σ H x xs v us Q I rx rxs h
  obtain ⟨a, y, ys, d, ds, rfl, rfl, hs, ha, hy, hxs, sd, q⟩ := h
  cases rx
  cases rxs with
  | cons ry rt =>
    rename_i uy ut
    cases rt
    obtain ⟨bs, r1⟩ := Dp.reads I d y uy hy ry
    have hroom : X.A.units + 1 + min (PyData.depthAll ds) d.depth < cLine := room_in_shaped sd hu
    obtain ⟨its, rv, ⟨⟨cls, dd, data, sl⟩, n, ho, hc, hdn, hd⟩, hlen⟩ := I.list hs
    simp only at hc hd
    subst hc hd
    obtain ⟨as, h4⟩ := Dp.readsAll I ds _ its ha rv
    have hmap : its.map (SeqAt.readOf s.heap) = ds := SeqAt.readsAll_map ds its as hxs h4
    refine call_meets PySem.F.slot_list_count ⟨_, ho, rfl⟩ PySem.F.entry_list_count (PySem.F.args_list_count_2 _ _)
      (SeqAt.list_countAt a its.toArray n dd sl uy (fun u => PyData.eqv (SeqAt.readOf s.heap u) d)) ⟨ho, SeqAt.items_eqAt (vs := its.toArray) (show ReadsAll s.heap its.toArray.toList ds as from h4) r1 hxs (SeqAt.canLay_of_shaped sd) hroom, ?_⟩
    have ec : its.toArray.toList.countP (fun u => PyData.eqv (SeqAt.readOf s.heap u) d) = ds.countP fun z => PyData.eqv z d := by
      rw [← hmap, List.countP_map]
      rfl
    refine ⟨.int ((ds.countP fun z => PyData.eqv z d : Nat) : Int), H, I.tok _, ⟨s.toks, ?_⟩, q⟩
    show Value.int ((its.toArray.toList.countP (fun u => PyData.eqv (SeqAt.readOf s.heap u) d) : Nat) : Int) s.toks = Value.int ((ds.countP fun z => PyData.eqv z d : Nat) : Int) s.toks
    rw [ec]
end XL
set_option Elab.async false
set_option linter.all false
set_option maxRecDepth 100000
set_option maxHeartbeats 4000000
/-! XPat: tuples that are put together and cut. -/
namespace XL
open PySem PySem.Spec PyProof.Rows L2
section
variable {K : PySem.W.Frag} {G H : Hp} {M : List (Addr × HO)} {a b : Addr} {xs ys : List V} {Q : VK}
theorem op_catAK {X : Cx} (K : PySem.W.Frag) (h : X.K = K := by rfl) : OpR X (binaryOp .Add) (rCatA K) := h ▸ op_catA
theorem cat_ok (S : Sep G M H) (ha : SqT K G a xs) (hb : SqT K G b ys) (hl : xs.length + ys.length ≤ sizeLine) (q : ∀ c G' H', Same G G' → SqT K G' c (xs ++ ys) → Sep G' M H' → Q (.ref c) H') : rCatA K (.ref a) (.ref b) H Q := by
  refine ⟨a, b, xs, ys, rfl, rfl, S.t ha, S.t hb, hl, fun e => ?_, fun _ e => ?_, fun _ _ p np => ?_⟩
  · subst e
    exact q b G H (Same.refl G) hb S
  · subst e
    exact q a G H (Same.refl G) (by rw [List.append_nil]; exact ha) S
  · exact q p _ _ (S.grow np) (SqT.of upd_same) (S.newG np)
theorem cutA_ok {lo hi : Option Int} (S : Sep G M H) (ha : SqT K G a xs) (q : ∀ c G' H', Same G G' → SqT K G' c (cutV xs lo hi) → Sep G' M H' → Q (.ref c) H') : rSlA K (.ref a) lo hi H Q := by
  refine ⟨a, xs, rfl, S.t ha, fun e => ?_, fun _ p np => ?_⟩
  · refine q a G H (Same.refl G) ?_ S
    have : cutV xs lo hi = xs := by
      unfold cutV
      rw [e.1, e.2, Nat.sub_zero, List.drop_zero, List.take_length]
    rw [this]
    exact ha
  · exact q p _ _ (S.grow np) (SqT.of upd_same) (S.newG np)
end
theorem sqT_ty {K : PySem.W.Frag} {H : Hp} {a : Addr} {xs : List V} (h : SqT K H a xs) : TyX K H (.ref a) (.type "tuple") := by
  rcases h with (h | ⟨o, h⟩) | ⟨o, _, _, h, c, _⟩
  · exact .base (.tup h)
  · exact .fTuple h
  · exact .kTuple h c
end XL
set_option Elab.async false
set_option linter.all false
set_option maxRecDepth 100000
set_option maxHeartbeats 4000000
/-! XStatic: staticmethods called through their class; x(*y) with the written part said. -/
namespace XL
open PySem PySem.Spec PyProof.Rows L2
/-- C.m is a staticmethod: its def at g -/
def SMet (K : PySem.W.Frag) (C : Addr) (mc : Value) (m : Str) (g : Addr) : Prop := ∃ p, PySem.W.findCls K (.ref C) mc m = some (.get (.builtin "staticmethod.__get__") (.ref p) .none (.ref C)) ∧ (∃ rest, PySem.W.recIn K p "staticmethod" = some (.ref g :: rest)) ∧ PySem.W.keepIn K (.ref g) = true
section
variable {X : Cx} {CX : CXT} {k : Nat} {C g : Addr} {mc : Value} {fd : FuncData} {ps : List Str} {sp : Sp} {E : XK} {o e : Expr} {es : List Expr} {m : Str} {pos apos : Pos} {ta : TE} {t : TA} {pl : Sem Bool}
theorem pe_smeth (he : PE X o ta) (r : ClX.CRead X.K C mc) (c : SMet X.K C mc m g) (F : FnOk X.prog X.w X.K X.mg X.base CX k g fd ps sp) (hr : Room k X.A) (hb : Binds X.K fd ps []) (hx : Passes CX X E) (ha : PA X (e :: es) t)
    (hst : starEach (e :: es) X.env = (false, eval e X.env) :: starEach es X.env := by rfl) (hpl : (backTo pos (starEach es X.env)).any (·.1) = false := by rfl)
    (ht : eval (.Call (.Attribute o m apos) (e :: es) [] pos) X.env = (do
      let ov ← eval o X.env
      standAt apos.atName
      let (f, first) ← holding [ov] (getMethod ov m pl)
      callWith pos f first (backTo pos (starEach (e :: es) X.env)) (backToKw pos (keywordEach [] X.env))) := by rfl) :
    PE X (.Call (.Attribute o m apos) (e :: es) [] pos) (fun σ H Q => ta σ H fun x H1 => x = .ref C ∧ t σ H1 fun vs H2 => sp vs H2 Q E) := by
  refine ⟨fun pins s σ H Q I h => ?_⟩
  refine PySem.W.methodCall_KW (pl := pl) (thn (he.run pins s σ H _ I h) fun u s1 ⟨x, H1, I1, rx, ex, q⟩ => ?_) ht
  subst ex
  obtain rfl : u = Value.ref C := rx
  obtain ⟨p, h1, ⟨rest, h2⟩, h3⟩ := c
  refine PySem.W.method_cls I1.kIn r.ga ?_
  refine PySem.W.cls_bind I1.kIn r.rd h1 ?_
  refine wpAny_call (PySem.W.sm_get (s := { s1 with toks := s1.toks + 1 }) I1.kIn h2 (PySem.W.handed_on rfl ?_))
  have I2 : L2.Inv X pins σ H1 { s1 with toks := s1.toks + 1 } := I1.tok _
  refine PySem.W.callWith_K (h₀ := X.base) I2.ok.mod.kin h3 (thn (ha.run pos pins _ σ H1 _ I2 q) fun us s3 ⟨vs, H2, I3, r3, q3⟩ => ⟨I3.kIn, ?_⟩) hst hpl
  exact run_fn (us := us) (vs := vs) (dvs := []) F hr hb .nil hx I3 r3 (show sp (vs ++ []) H2 Q E by rw [List.append_nil]; exact q3)
end
section
variable {X : Cx}
theorem sw_trueD {kx vx : Expr} {gs : List Comprehension} {scope : Scope} {pos py : Pos} {y : Str} {l : Nat} {env : Env} (hk : env.scope.kind = .function) (hy : env.scope.names.lookup y = some .local) (hl : (py.line == pos.line) = true)
    (ha : (scope.names.any fun (n, k) => n == y && (k == .local || k == .cell)) = false) : swapsWith (.DictComp kx vx gs scope pos) (some (.Name y py)) l env = pure true := by
  have ky : env.kindOf y = some .local := hy
  have hb : env.blockKind = .function := by unfold Env.blockKind; rw [hk]; rfl
  unfold swapsWith
  simp only [hb, ky, ha, Expr.pos, hl]
  rfl
/-- name = {..} on one line, the name a local -/
theorem ps_setDc {i : Nat} {y : Str} {py : Pos} {kx vx tg iter : Expr} {ifs : List Expr} {scope : Scope} {own : List (Str × Nat)} {pos spos : Pos} {wi : TI} {g : TG} {tt : TT} {tk tv : TE} (hc : X.calm = true) (hN : X.N.Nodup) (hy : X.N[i]? = some y) (hyl : X.env.scope.names.lookup y = some .local)
    (hsw : swapsWith (.DictComp kx vx [⟨tg, iter, ifs, 0⟩] scope pos) (some (.Name y py)) spos.line X.env = pure true) (hi : PI X tg iter wi) (ok : BlkOk X.N X.env.scope scope own)
    (hg : ∀ (s : Shared) (H : Hp) (C : Addr) (cl : List (Str × Addr)) (fp : List Addr), PG (X.blk s H scope (compEnvC scope cl C X.env) fp) tg g) (ht : ∀ (s : Shared) (H : Hp) (C : Addr) (cl : List (Str × Addr)) (fp : List Addr), PTs (X.blk s H scope (compEnvC scope cl C X.env) fp) ifs tt)
    (hk : ∀ (s : Shared) (H : Hp) (C : Addr) (cl : List (Str × Addr)) (fp : List Addr), PE (X.blk s H scope (compEnvC scope cl C X.env) fp) kx tk)
    (he : ∀ (s : Shared) (H : Hp) (C : Addr) (cl : List (Str × Addr)) (fp : List Addr), PE (X.blk s H scope (compEnvC scope cl C X.env) fp) vx tv) (hs : ∀ x, foldedSetIterable iter X.env x = pure x := by intro _; rfl) :
    PS X (.Assign [.Name y py] (.DictComp kx vx [⟨tg, iter, ifs, 0⟩] scope pos) spos) (tAsg (tDc wi g tt tk tv (own.map (·.2))) (gName i)) := by
  refine ⟨fun pins s σ H D I h => ?_⟩
  rw [exec_Assign_Name_used _ _ _ _ hsw]
  refine wpAny_bind (wpAny_standAt (wpAny_bind ?_))
  show wpAny _ X.A (do let _ ← comprehension (.DictComp kx vx [⟨tg, iter, ifs, 0⟩] scope pos) scope X.env (firstIterPos [⟨tg, iter, ifs, 0⟩] pos) newDict false (eval iter X.env) (some (assign (.Name y py) X.env))) _ _ s
  have h : tDc wi g tt tk tv (own.map (·.2)) σ H (fun x H1 => gName i x σ H1 D.nx) := h
  refine wpAny_bind (thn (dc_core (Qf := fun _ s' => SP X pins D .next s') hc hN I hi ok hg ht hk he hs h fun L C s' m H' I' q hn f => ?_) fun _ s' hq => wpAny_pure (wpAny_pure hq))
  show wpAny _ _ (assign (.Name y py) X.env (.ref L)) _ _ _
  refine wpAny_assign_Name (store_ok2 (v := V.ref L) I' hN hy (.inl hyl) rfl (fun s2 I2 ⟨a, sb, ha⟩ => ?_) (.inr hyl))
  obtain ⟨f0, f1, f2, f3, f4, f5⟩ := f
  have haC : C ≠ a := by
    rcases ha with z | z
    · rw [z]; exact f1
    · exact fun e => f4 y a z e.symm
  refine ⟨m, hn.sameBut sb haC, fun h3 sb3 => ?_⟩
  exact ⟨_, H', I2.turned (t' := s2.toks) (fun b o hb e => (sb3.2 b hb).trans e) f0 f1 f3 f4 f5, q⟩
end
section
variable {X : Cx} {CX : CXT} {k : Nat} {f : Addr} {sp : Sp} {E : XK} {x : Str} {p pos sp_ : Pos} {e : Expr} {te : TE}
theorem pe_callS1K (K : PySem.W.Frag) (F : FnR X.prog X.w X.K X.mg X.base CX k f sp) (hr : Room k X.A) (hk : PySem.W.keepIn X.K (.ref f) = true) (hg : Gl X x) (hm : X.mg x = some (.ref f)) (hx : Passes CX X E) (he : PE X e te) (hd : (x == ("__debug__" : Str)) = false := by decide)
    (hst : starEach [.Starred e sp_] X.env = [(true, eval e X.env)] := by rfl) (hK : X.K = K := by rfl) :
    PE X (.Call (.Name x p) [.Starred e sp_] [] pos) (fun σ H Q => te σ H fun y H1 => ∃ a xs, y = V.ref a ∧ (SqT K H1 a xs ∨ SqL K H1 a xs) ∧ sp xs H1 Q E) := hK ▸ StX.pe_callS1 F hr hk hg hm hx he hd hst
end
end XL
set_option Elab.async false
set_option linter.all false
set_option maxRecDepth 100000
set_option maxHeartbeats 4000000
/-! XKeyD: dicts whose keys are nested tuples of ints, truths and texts. -/
namespace XL
open PySem PySem.Spec PySem.SeqAt PyProof.Rows L2
/-! ### keys as data -/
noncomputable instance decPD : DecidableEq PyData := fun _ _ => Classical.propDecidable _
mutual
def keyD : PyData → Bool
  | .bool _ => true
  | .int _ => true
  | .str x => PyData.canLay0 (.str x)
  | .tuple xs => keyDs xs
  | _ => false
def keyDs : List PyData → Bool
  | [] => true
  | d :: ds => keyD d && keyDs ds
end
mutual
/-- what Python compares: True is 1 -/
def nrm : PyData → PyData
  | .bool b => .int (if b then 1 else 0)
  | .tuple xs => .tuple (nrms xs)
  | d => d
def nrms : List PyData → List PyData
  | [] => []
  | d :: ds => nrm d :: nrms ds
end
mutual
def hashD (w : World) : PyData → Int
  | .int i => hashInt i
  | .str x => hashStr w x
  | .tuple xs => reduceHash (Builtin.Tuple.tupleHashOf (hashDs w xs))
  | _ => 0
def hashDs (w : World) : List PyData → List Int
  | [] => []
  | d :: ds => hashD w d :: hashDs w ds
end
mutual
def drawD : PyData → Nat
  | .tuple xs => drawDs xs + 1
  | _ => 1
def drawDs : List PyData → Nat
  | [] => 0
  | d :: ds => drawD d + drawDs ds
end
mutual
theorem keyD_lay : ∀ d : PyData, keyD d = true → d.canLay0 = true
  | .bool _, _ => rfl
  | .int _, _ => rfl
  | .str _, h => h
  | .tuple xs, h => by
    simp only [PyData.canLay0]
    exact keyDs_lay xs h
  | .none, h => nomatch h
  | .list _, h => nomatch h
  | .dict _, h => nomatch h
theorem keyDs_lay : ∀ ds : List PyData, keyDs ds = true → PyData.canLayAll0 ds = true
  | [], _ => rfl
  | d :: ds, h => by
    have h2 : (keyD d && keyDs ds) = true := h
    rw [Bool.and_eq_true] at h2
    simp only [PyData.canLayAll0, Bool.and_eq_true]
    exact ⟨keyD_lay d h2.1, keyDs_lay ds h2.2⟩
end
theorem beq_dec {α : Type} [BEq α] [LawfulBEq α] (a b : α) [Decidable (a = b)] : (a == b) = decide (a = b) := by
  by_cases h : a = b
  · rw [decide_eq_true h, beq_iff_eq.mpr h]
  · rw [decide_eq_false h]
    exact beq_eq_false_iff_ne.mpr h
mutual
theorem eqv_nrm : ∀ d e : PyData, keyD d = true → keyD e = true → PyData.eqv d e = decide (nrm d = nrm e)
  | .bool a, e, _, he => by
    cases e with
    | bool b => cases a <;> cases b <;> simp [PyData.eqv, nrm]
    | int i => cases a <;> simp [PyData.eqv, nrm, beq_dec, eq_comm]
    | str _ => simp [PyData.eqv, nrm]
    | tuple _ => simp [PyData.eqv, nrm]
    | _ => exact nomatch he
  | .int a, e, _, he => by
    cases e with
    | bool b => cases b <;> simp [PyData.eqv, nrm, beq_dec]
    | int i => simp [PyData.eqv, nrm, beq_dec]
    | str _ => simp [PyData.eqv, nrm]
    | tuple _ => simp [PyData.eqv, nrm]
    | _ => exact nomatch he
  | .str a, e, _, he => by
    cases e with
    | bool b => simp [PyData.eqv, nrm]
    | int i => simp [PyData.eqv, nrm]
    | str _ => simp [PyData.eqv, nrm, beq_dec]
    | tuple _ => simp [PyData.eqv, nrm]
    | _ => exact nomatch he
  | .tuple xs, e, hd, he => by
    cases e with
    | bool b => simp [PyData.eqv, nrm]
    | int i => simp [PyData.eqv, nrm]
    | str _ => simp [PyData.eqv, nrm]
    | tuple ys =>
      have := eqvs_nrm xs ys hd he
      simp only [PyData.eqv, nrm, PyData.tuple.injEq]
      exact this
    | _ => exact nomatch he
  | .none, _, h, _ => nomatch h
  | .list _, _, h, _ => nomatch h
  | .dict _, _, h, _ => nomatch h
theorem eqvs_nrm : ∀ ds es : List PyData, keyDs ds = true → keyDs es = true → PyData.eqvAll ds es = decide (nrms ds = nrms es)
  | [], [], _, _ => by simp [PyData.eqvAll, nrms]
  | [], _ :: _, _, _ => by simp [PyData.eqvAll, nrms]
  | _ :: _, [], _, _ => by simp [PyData.eqvAll, nrms]
  | d :: ds, e :: es, h, k => by
    have h2 : (keyD d && keyDs ds) = true := h
    have k2 : (keyD e && keyDs es) = true := k
    rw [Bool.and_eq_true] at h2 k2
    simp only [PyData.eqvAll, nrms, List.cons.injEq]
    rw [eqv_nrm d e h2.1 k2.1, eqvs_nrm ds es h2.2 k2.2, Bool.decide_and]
end
/-! ### its hash -/
theorem hashDs_app (w : World) : ∀ a b : List PyData, hashDs w (a ++ b) = hashDs w a ++ hashDs w b
  | [], _ => rfl
  | d :: ds, b => by
    show hashD w d :: hashDs w (ds ++ b) = hashD w d :: (hashDs w ds ++ hashDs w b)
    rw [hashDs_app w ds b]
theorem drawDs_app : ∀ a b : List PyData, drawDs (a ++ b) = drawDs a + drawDs b
  | [], b => by show drawDs b = 0 + drawDs b; omega
  | d :: ds, b => by
    show drawD d + drawDs (ds ++ b) = drawD d + drawDs ds + drawDs b
    rw [drawDs_app ds b]
    omega
theorem nrms_app : ∀ a b : List PyData, nrms (a ++ b) = nrms a ++ nrms b
  | [], _ => rfl
  | d :: ds, b => by
    show nrm d :: nrms (ds ++ b) = nrm d :: (nrms ds ++ nrms b)
    rw [nrms_app ds b]
theorem keyDs_all : ∀ {ds : List PyData}, keyDs ds = true → ∀ d ∈ ds, keyD d = true
  | d :: ds, h, e, he => by
    have h2 : (keyD d && keyDs ds) = true := h
    rw [Bool.and_eq_true] at h2
    rcases List.mem_cons.mp he with rfl | he
    · exact h2.1
    · exact keyDs_all h2.2 e he
section
variable {prog : Program} {w : World}
theorem hash_bool {A : Around} {E : Value → Shared → Prop} {s : Shared} {b : Bool} {Q : Int → Shared → Prop} (h : Q (hashInt (if b then 1 else 0)) { s with toks := s.toks + 1 }) : wpAny (model prog w) A (pyHash (.bool b)) Q E s := by
  have hr := rawHash_range (if b then 1 else 0)
  unfold pyHash
  have hv : [Value.bool b].any Value.onHeap = false := rfl
  refine wpAny_bind ?_
  rw [cRoomFor, if_neg (by rw [hv]; exact Bool.false_ne_true)]
  refine wpAny_pure ?_
  refine wpAny_bind (wpAny_specialOf (PySem.typeIs_bool s b) F.slot_bool_hash.lookup ?_)
  show wpAny _ _ (if (some (Value.builtin "int.__hash__") == some Value.none) = true then _ else _) Q E s
  rw [if_neg (by rw [beq_builtin_none]; exact Bool.false_ne_true)]
  refine wpAny_bind (wpAny_specialOf (PySem.typeIs_bool s b) F.slot_bool_hash.lookup ?_)
  show wpAny _ _ (callSpecialIfBoundUnlessNone? (.bool b) "__hash__" _ >>= _) Q E s
  refine wpAny_bind (wpAny_callSpecialIfBoundUnlessNone?_slot (PySem.typeIs_bool s b) F.slot_bool_hash
    (wpAny_call_entry F.slot_bool_hash (PySem.typeIs_bool s b) entry_int_hash
      (show wpAny _ _ (do ret (← mkInt (rawHash (if b then 1 else 0)))) _ _ s from wpAny_ret_mkInt ?_) (args_int_hash _)))
  show wpAny _ _ (if (decide (-(2 : Int) ^ 63 ≤ rawHash (if b then 1 else 0)) && decide (rawHash (if b then 1 else 0) < 2 ^ 63)) = true then _ else _) Q E _
  rw [if_pos (by rw [decide_eq_true hr.1, decide_eq_true hr.2]; rfl)]
  exact wpAny_pure h
def HashAt (prog : Program) (w : World) (d : PyData) : Prop := ∀ (A : Around) (E : Value → Shared → Prop) (s : Shared) (v : Value) (as : List Addr) (Q : Int → Shared → Prop), keyD d = true → Reads s.heap v d as → A.units + d.depth < cLine →
  Q (hashD w (nrm d)) { s with toks := s.toks + drawD (nrm d) } → wpAny (model prog w) A (pyHash v) Q E s
theorem depth_in {d : PyData} : ∀ {ds : List PyData}, d ∈ ds → d.depth ≤ PyData.depthAll ds
  | e :: ds, h => by
    simp only [PyData.depthAll]
    rcases List.mem_cons.mp h with rfl | h
    · exact Nat.le_max_left _ _
    · exact Nat.le_trans (depth_in h) (Nat.le_max_right _ _)
theorem hash_tup {xs : List PyData} (ih : ∀ d ∈ xs, HashAt prog w d) : HashAt prog w (.tuple xs) := by
  intro A E s v as Q hk r hu h
  have hk : keyDs xs = true := hk
  have hdp : (PyData.tuple xs).depth = PyData.depthAll xs + 1 := by simp only [PyData.depth]
  cases r with
  | @tuple a o items n _ as ho hc hd hi =>
    have hT : s.TypeIs (.ref a) "tuple" := ⟨o, ho, hc⟩
    have hu0 : A.units < cLine := by omega
    unfold pyHash
    first | unfold pyHashByItsType | skip
    first | refine wpAny_bind (wpAny_cRoomFor_or (.inr hu0) ?_) | skip
    refine wpAny_bind (wpAny_specialOf hT F.slot_tuple_hash.lookup ?_)
    show wpAny _ _ (if (some (Value.builtin "tuple.__hash__") == some Value.none) = true then _ else _) Q E s
    rw [if_neg (by rw [beq_builtin_none]; exact Bool.false_ne_true)]
    refine wpAny_bind (wpAny_specialOf hT F.slot_tuple_hash.lookup ?_)
    show wpAny _ _ (callSpecialIfBoundUnlessNone? (.ref a) "__hash__" _ >>= _) Q E s
    refine wpAny_bind (wpAny_callSpecialIfBoundUnlessNone?_slot hT F.slot_tuple_hash (wpAny_call_entry F.slot_tuple_hash hT F.entry_tuple_hash ?_ (F.args_tuple_hash_1 _)))
    show wpAny _ _ (Builtin.Tuple.tupleItemsOf (.ref a) >>= _) _ _ s
    refine wpAny_bind (wpAny_tupleItemsOf ho hd ?_)
    refine wpAny_bind ?_
    rw [← Array.forIn_toList]
    refine wpAny_forIn_list _
      (fun rest (b : Array Int) s' => ∃ done left bs, xs = done ++ left ∧ ReadsAll s.heap rest left bs ∧ b.toList = hashDs w (nrms done) ∧ s' = { s with toks := s.toks + drawDs (nrms done) })
      _ ?_ ?_ _ _ ⟨[], xs, as, rfl, hi, rfl, rfl⟩
    · rintro x rest b s' ⟨done, left, bs, e, hl, hb, rfl⟩
      cases hl with
      | @cons _ _ d ds _ _ h1 hl' =>
        have hm : d ∈ xs := by rw [e]; simp
        refine wpAny_bind (ih d hm A.in1 _ _ x _ _ (keyDs_all hk d hm) h1 (by have := depth_in hm; have : A.in1.units = A.units + 1 := rfl; omega) ?_)
        have fin : ∃ done' left' bs', xs = done' ++ left' ∧ ReadsAll s.heap rest left' bs' ∧ (b.push (hashD w (nrm d))).toList = hashDs w (nrms done') ∧ ({ s with toks := s.toks + drawDs (nrms done) + drawD (nrm d) } : Shared) = { s with toks := s.toks + drawDs (nrms done') } := by
          refine ⟨done ++ [d], ds, _, by rw [e]; simp, hl', ?_, ?_⟩
          · rw [nrms_app, hashDs_app, Array.toList_push, hb]
            rfl
          · rw [nrms_app, drawDs_app]
            show ({ s with toks := _ } : Shared) = { s with toks := s.toks + (drawDs (nrms done) + (drawD (nrm d) + 0)) }
            rw [Nat.add_zero, Nat.add_assoc]
        first
          | exact wpAny_pure fin
          | exact wpAny_bind (wpAny_pure (wpAny_pure fin))
    · rintro b s' ⟨done, left, bs, e, hl, hb, rfl⟩
      cases hl
      rw [List.append_nil] at e
      subst e
      have h : Q (reduceHash (Builtin.Tuple.tupleHashOf (hashDs w (nrms xs)))) { s with toks := s.toks + (drawDs (nrms xs) + 1) } := h
      show wpAny _ _ (retInt (Builtin.Tuple.tupleHashOf b.toList)) _ _ _
      rw [hb]
      refine wpAny_ret_mkInt ?_
      show wpAny _ _ (if (decide (-(2 : Int) ^ 63 ≤ Builtin.Tuple.tupleHashOf (hashDs w (nrms xs))) && decide (Builtin.Tuple.tupleHashOf (hashDs w (nrms xs)) < 2 ^ 63)) = true then _ else _) Q E _
      unfold reduceHash at h
      by_cases hr : (decide (-(2 : Int) ^ 63 ≤ Builtin.Tuple.tupleHashOf (hashDs w (nrms xs))) && decide (Builtin.Tuple.tupleHashOf (hashDs w (nrms xs)) < 2 ^ 63)) = true
      · rw [if_pos hr]
        rw [if_pos hr] at h
        exact wpAny_pure (by simpa [Nat.add_assoc] using h)
      · rw [if_neg hr]
        rw [if_neg hr] at h
        exact wpAny_bind (wpAny_rule (wpAny_pure (by simpa [Nat.add_assoc] using h)))
mutual
theorem hash_reads : ∀ d : PyData, HashAt prog w d
  | .bool b => fun A E s v as Q _ r _ h => by
    cases r
    exact hash_bool h
  | .int i => fun A E s v as Q _ r _ h => by
    cases r
    exact wpAny_pyHash_int h
  | .str x => fun A E s v as Q _ r _ h => by
    cases r
    exact wpAny_pyHash_str h
  | .tuple xs => hash_tup (hash_all xs)
  | .none => fun _ _ _ _ _ _ h => nomatch h
  | .list _ => fun _ _ _ _ _ _ h => nomatch h
  | .dict _ => fun _ _ _ _ _ _ h => nomatch h
theorem hash_all : ∀ ds : List PyData, ∀ d ∈ ds, HashAt prog w d
  | [], _, h => nomatch h
  | e :: ds, d, h => by
    by_cases e2 : d = e
    · rw [e2]
      exact hash_reads e
    · exact hash_all ds d ((List.mem_cons.mp h).resolve_left e2)
end
/-! ### its equality is quiet -/
def QuietAt (prog : Program) (w : World) (d : PyData) : Prop := ∀ (n : Nat) (A : Around) (E : Value → Shared → Prop) (s : Shared) (v : Value) (as : List Addr) (Q : Bool → Shared → Prop), keyD d = true → Reads s.heap v d as → d.depth ≤ n →
  Q true s → wpAny (model prog w) A (eqIsQuiet n v) Q E s
theorem quiet_tup {xs : List PyData} (ih : ∀ d ∈ xs, QuietAt prog w d) : QuietAt prog w (.tuple xs) := by
  intro n A E s v as Q hk r hu h
  have hk : keyDs xs = true := hk
  have hdp : (PyData.tuple xs).depth = PyData.depthAll xs + 1 := by simp only [PyData.depth]
  obtain ⟨n, rfl⟩ : ∃ m, n = m + 1 := ⟨n - 1, by omega⟩
  cases r with
  | @tuple a o items m _ as ho hc hd hi =>
    have hT : s.TypeIs (.ref a) "tuple" := ⟨o, ho, hc⟩
    unfold eqIsQuiet
    refine wpAny_bind (wpAny_specialOf hT F.slot_tuple_eq.lookup ?_)
    show wpAny _ _ (isInstance (.ref a) (.type "tuple") >>= _) _ _ s
    refine wpAny_bind (wpAny_isInstance hT isSubtype_tuple_tuple ?_)
    simp only [Bool.not_true, Bool.false_eq_true, if_false]
    refine wpAny_bind (wpAny_seqItems ho hd ?_)
    refine wpAny_bind ?_
    show wpAny _ _ (forIn items _ _) _ _ s
    rw [← Array.forIn_toList]
    refine wpAny_forIn_list _ (fun rest r s' => r.1 = none ∧ s' = s ∧ ∃ left bs, (∀ d ∈ left, d ∈ xs) ∧ ReadsAll s.heap rest left bs) _ ?_ ?_ _ _ ⟨rfl, rfl, xs, as, fun _ h => h, hi⟩
    · rintro v rest r s' ⟨hr, rfl, left, bs, hin, hl⟩
      cases hl with
      | @cons _ _ d ds _ _ h1 hl' =>
        have hm := hin d List.mem_cons_self
        refine wpAny_bind (ih d hm n A _ _ v _ _ (keyDs_all hk d hm) h1 (by have := depth_in hm; omega) ?_)
        simp only [Bool.not_true, Bool.false_eq_true, if_false]
        exact wpAny_pure ⟨rfl, rfl, ds, _, fun e he => hin e (List.mem_cons_of_mem _ he), hl'⟩
    · rintro ⟨r1, r2⟩ s' ⟨hr, rfl, _⟩
      simp only at hr
      subst hr
      exact wpAny_pure h
mutual
theorem quiet_reads : ∀ d : PyData, QuietAt prog w d
  | .bool b => fun n A E s v as Q _ r _ h => by
    cases r
    rw [eqIsQuiet_byValue _ rfl]
    exact wpAny_pure h
  | .int i => fun n A E s v as Q _ r _ h => by
    cases r
    rw [eqIsQuiet_byValue _ rfl]
    exact wpAny_pure h
  | .str x => fun n A E s v as Q _ r _ h => by
    cases r
    rw [eqIsQuiet_byValue _ rfl]
    exact wpAny_pure h
  | .tuple xs => quiet_tup (quiet_all xs)
  | .none => fun _ _ _ _ _ _ _ h => nomatch h
  | .list _ => fun _ _ _ _ _ _ _ h => nomatch h
  | .dict _ => fun _ _ _ _ _ _ _ h => nomatch h
theorem quiet_all : ∀ ds : List PyData, ∀ d ∈ ds, QuietAt prog w d
  | [], _, h => nomatch h
  | e :: ds, d, h => by
    by_cases e2 : d = e
    · rw [e2]
      exact quiet_reads e
    · exact quiet_all ds d ((List.mem_cons.mp h).resolve_left e2)
end
/-! ### the kind -/
mutual
theorem reads_same {h h' : Heap} {d : Addr} {o : Obj} {es ep} (ho : h.get? d = some o) (hd : o.data = .dict es ep) (hs : Heap.SameBut d h h') : ∀ (x : PyData) (v : Value) (as : List Addr), keyD x = true → Reads h v x as → Reads h' v x as
  | .bool b, _, _, _, r => by cases r; exact .bool b
  | .int i, _, _, _, r => by cases r; exact .int i _
  | .str x, _, _, _, r => by cases r; exact .str x _
  | .tuple xs, _, _, hk, r => by
    cases r with
    | @tuple a o' items m _ as h1 h2 h3 h4 =>
      have hne : a ≠ d := by
        rintro rfl
        obtain rfl : o' = o := Option.some.inj (h1.symm.trans ho)
        rw [hd] at h3
        exact nomatch h3
      exact .tuple ((hs.2 a hne).trans h1) h2 h3 (readsAll_same ho hd hs xs _ _ hk h4)
  | .none, _, _, h, _ => nomatch h
  | .list _, _, _, h, _ => nomatch h
  | .dict _, _, _, h, _ => nomatch h
theorem readsAll_same {h h' : Heap} {d : Addr} {o : Obj} {es ep} (ho : h.get? d = some o) (hd : o.data = .dict es ep) (hs : Heap.SameBut d h h') : ∀ (xs : List PyData) (vs : List Value) (as : List Addr), keyDs xs = true → ReadsAll h vs xs as → ReadsAll h' vs xs as
  | [], _, _, _, r => by cases r; exact .nil
  | x :: xs, _, _, hk, r => by
    have h2 : (keyD x && keyDs xs) = true := hk
    rw [Bool.and_eq_true] at h2
    cases r with
    | cons r1 r2 => exact .cons (reads_same ho hd hs x _ _ h2.1 r1) (readsAll_same ho hd hs xs _ _ h2.2 r2)
end
def dataKind (prog : Program) (w : World) : HeapKind prog w PyData where
  is := fun h k a => ∃ d as, Reads h (.ref a) d as ∧ keyD d = true ∧ d.depth ≤ 8 ∧ nrm d = k
  hash := hashD w
  draws := drawD
  room := fun A => A.units + 8 < cLine
  inj := fun ⟨d, as, h1, h2, _, h3⟩ ⟨e, bs, k1, _, _, k3⟩ => by
    have := Reads.unique d e _ _ _ (keyD_lay d h2) h1 k1
    rw [← h3, ← k3, this]
  keeps := fun ⟨d, as, h1, h2, h3, h4⟩ ho hd hs => ⟨d, as, reads_same ho hd hs d _ _ h2 h1, h2, h3, h4⟩
  pyHash := fun hu ⟨d, as, h1, h2, h3, h4⟩ h => by
    subst h4
    exact hash_reads d _ _ _ _ _ _ h2 h1 (by omega) h
  eqBool := fun {A E s x y a b Q} hu ⟨d, as, h1, h2, h3, h4⟩ ⟨e, bs, k1, k2, k3, k4⟩ h => by
    subst h4
    subst k4
    refine eqAt_reads d e A s _ _ _ _ h1 k1 (keyD_lay d h2) (keyD_lay e k2) (by have := Nat.min_le_left d.depth e.depth; omega) prog w E Q ?_
    rw [eqv_nrm d e h2 k2]
    exact h
  quiet := fun ⟨d, as, h1, h2, h3, _⟩ h => quiet_reads d _ _ _ _ _ _ _ h2 h1 h3 h
end
/-! ### the dict -/
/-- b holds the key k -/
def KeyV (K : PySem.W.Frag) (H : Hp) (b : Addr) (k : PyData) : Prop := ∃ d, Dp K H (.ref b) d ∧ keyD d = true ∧ d.depth ≤ 8 ∧ nrm d = k
theorem KeyV.same {K : PySem.W.Frag} {H H' : Hp} {b : Addr} {k : PyData} (e : Same H H') (h : KeyV K H b k) : KeyV K H' b k := let ⟨d, h1, h2⟩ := h; ⟨d, dp_same e h1, h2⟩
def rowD (w : World) (x : PyData × Addr × Value) : DictEntry := ⟨hashD w x.1, .ref x.2.1, x.2.2⟩
/-- the dict's one object -/
def dO (a : Addr) (es : Array DictEntry) (ep : Nat) : HO := .ext fun h => ∃ o, h.get? a = some o ∧ o.ExactDict ∧ o.data = .dict es ep
abbrev KD (K : PySem.W.Frag) (H : Hp) : List (PyData × V) → List (PyData × Addr × Value) → Prop := Paired fun p q => p.1 = q.1 ∧ KeyV K H q.2.1 p.1 ∧ RelV p.2 q.2.2
/-- the cell o at a is a dict with these rows -/
def DD (K : PySem.W.Frag) (w : World) (H : Hp) (a : Addr) (o : HO) (kvs : List (PyData × V)) : Prop := kvs.length ≤ sizeLine ∧ (a == sysModules) = false ∧ ∃ es ep xs, o = dO a es ep ∧ es.toList = xs.map (rowD w) ∧ (xs.map (·.1)).Nodup ∧ KD K H kvs xs
theorem KD.keeps {K : PySem.W.Frag} {H H' : Hp} {kvs : List (PyData × V)} {xs : List (PyData × Addr × Value)} (e : Same H H') (r : KD K H kvs xs) : KD K H' kvs xs := Paired.mapP r fun _ _ z => ⟨z.1, z.2.1.same e, z.2.2⟩
theorem DD.same {K : PySem.W.Frag} {w : World} {H H' : Hp} {a : Addr} {o : HO} {kvs : List (PyData × V)} (e : Same H H') (h : DD K w H a o kvs) : DD K w H' a o kvs := by
  obtain ⟨h1, h2, es, ep, xs, h3, h4, h5, h6⟩ := h
  exact ⟨h1, h2, es, ep, xs, h3, h4, h5, h6.keeps e⟩
theorem KD.val {K : PySem.W.Frag} {H : Hp} {kvs : List (PyData × V)} {xs : List (PyData × Addr × Value)} (r : KD K H kvs xs) (k : PyData) : RelO (valV kvs k) ((atKey xs k).map (·.2)) := by
  induction r with
  | nil => exact True.intro
  | @cons p q ps qs h t ih =>
    obtain ⟨h1, _, h2⟩ := h
    by_cases e : p.1 = k
    · have e' : q.1 = k := h1.symm.trans e
      have b : atKey (q :: qs) k = some q.2 := by simp [atKey, List.find?_cons, e']
      rw [valV_pos e, b]; exact h2
    · have e' : ¬ q.1 = k := fun z => e (h1.trans z)
      have b : atKey (q :: qs) k = atKey qs k := by simp [atKey, List.find?_cons, e']
      rw [valV_neg e, b]; exact ih
theorem KD.repl {K : PySem.W.Frag} {H : Hp} {kvs : List (PyData × V)} {xs : List (PyData × Addr × Value)} (r : KD K H kvs xs) (k : PyData) {y : V} {u : Value} (ry : RelV y u) :
    KD K H (kvs.map fun kv => if kv.1 = k then (kv.1, y) else kv) (xs.map (putAt k u)) := by
  induction r with
  | nil => exact .nil
  | @cons p q ps qs h t ih =>
    rw [List.map_cons, List.map_cons]
    refine .cons ?_ ih
    obtain ⟨h1, h2, h3⟩ := h
    unfold putAt
    by_cases e : p.1 = k
    · rw [if_pos e, if_pos (h1.symm.trans e)]; exact ⟨h1, h2, ry⟩
    · rw [if_neg e, if_neg (fun z => e (h1.trans z))]; exact ⟨h1, h2, h3⟩
theorem KD.put {K : PySem.W.Frag} {H : Hp} {kvs : List (PyData × V)} {xs : List (PyData × Addr × Value)} (r : KD K H kvs xs) (k : PyData) {b : Addr} {y : V} {u : Value} (hb : KeyV K H b k) (ry : RelV y u) :
    KD K H (putK kvs k y) (storedH xs k b u) := by
  have e : (kvs.any fun kv => decide (kv.1 = k)) = (atKey xs k).isSome := by
    rw [valV_any, (r.val k).isSome_eq, Option.isSome_map]
  unfold putK storedH
  rw [e]
  by_cases q : (atKey xs k).isSome = true
  · rw [if_pos q, if_pos q]; exact r.repl k ry
  · rw [if_neg q, if_neg q]; exact Paired.snoc r ⟨rfl, hb, ry⟩
section
variable {X : Cx} {pins : List (Addr × Obj)} {σ : L2.St} {H : Hp} {s : Shared} {a b : Addr} {o : HO} {k : PyData} {kvs : List (PyData × V)} {A : Around} {E : Value → Shared → Prop}
theorem keyV_is (I : Inv X pins σ H s) (h : KeyV X.K H b k) : (dataKind X.prog X.w).is s.heap k b := by
  obtain ⟨d, hd, h1, h2, h3⟩ := h
  obtain ⟨as, r⟩ := Dp.reads I d (.ref b) (.ref b) hd rfl
  exact ⟨d, as, r, h1, h2, h3⟩
theorem kd_all (I : Inv X pins σ H s) {xs : List (PyData × Addr × Value)} (r : KD X.K H kvs xs) : ∀ x ∈ xs, (dataKind X.prog X.w).is s.heap x.1 x.2.1 := by
  induction r with
  | nil => intro x hx; exact nomatch hx
  | @cons p q ps qs hq t ih =>
    intro x hx
    rcases List.mem_cons.mp hx with e | hx
    · subst e
      rw [← hq.1]
      exact keyV_is I hq.2.1
    · exact ih x hx
theorem dd_of (I : Inv X pins σ H s) (e : H a = some o) (h : DD X.K X.w H a o kvs) : kvs.length ≤ sizeLine ∧ (a == sysModules) = false ∧ ∃ xs, KD X.K H kvs xs ∧ s.heap.DictOfH (dataKind X.prog X.w) a xs := by
  obtain ⟨h1, h2, es, ep, xs, rfl, h4, h5, h6⟩ := h
  obtain ⟨⟨ob, k1, k2, k3⟩, _⟩ := I.hok a _ e
  exact ⟨h1, h2, xs, h6, ob, es, ep, k1, k2, k3, h4, kd_all I h6, h5⟩
theorem dd_getItem {v : V} {Q : Value → Shared → Prop} (hu : A.units + 9 < cLine) (I : Inv X pins σ H s) (e : H a = some o) (h : DD X.K X.w H a o kvs) (hb : KeyV X.K H b k) (l : valV kvs k = some v) (q : ∀ w' s', Inv X pins σ H s' → RelV v w' → Q w' s') :
    wpAny (model X.prog X.w) A (getItem (.ref a) (.ref b)) Q E s := by
  obtain ⟨z, hd, xs, rel, dd⟩ := dd_of I e h
  obtain ⟨w', hw, rw'⟩ := RelO.some_of (v := v) (o := (atKey xs k).map (·.2)) (by rw [← l]; exact rel.val k)
  obtain ⟨p, hp, hp2⟩ := Option.map_eq_some_iff.mp hw
  refine wpAny_getItem_heap (show A.in1.units + 8 < cLine from by have : A.in1.units = A.units + 1 := rfl; omega) (keyV_is I hb) dd hp ?_
  rw [hp2]
  exact q w' _ (I.tok _) rw'
theorem dd_in {Q : Value → Shared → Prop} (hu : A.units + 9 < cLine) (I : Inv X pins σ H s) (e : H a = some o) (h : DD X.K X.w H a o kvs) (hb : KeyV X.K H b k) (q : ∀ s', Inv X pins σ H s' → Q (.bool (valV kvs k).isSome) s') :
    wpAny (model X.prog X.w) A (compareOp .In (.ref b) (.ref a)) Q E s := by
  obtain ⟨z, hd, xs, rel, dd⟩ := dd_of I e h
  refine wpAny_in_heap (show A.in1.units + 8 < cLine from by have : A.in1.units = A.units + 1 := rfl; omega) (keyV_is I hb) hd dd ?_
  have r := (rel.val k).isSome_eq
  rw [Option.isSome_map] at r
  rw [← r]
  exact q _ (I.tok _)
theorem dd_notIn {Q : Value → Shared → Prop} (hu : A.units + 9 < cLine) (I : Inv X pins σ H s) (e : H a = some o) (h : DD X.K X.w H a o kvs) (hb : KeyV X.K H b k) (q : ∀ s', Inv X pins σ H s' → Q (.bool (!(valV kvs k).isSome)) s') :
    wpAny (model X.prog X.w) A (compareOp .NotIn (.ref b) (.ref a)) Q E s := by
  obtain ⟨z, hd, xs, rel, dd⟩ := dd_of I e h
  refine wpAny_notIn_heap (show A.in1.units + 8 < cLine from by have : A.in1.units = A.units + 1 := rfl; omega) (keyV_is I hb) hd dd ?_
  have r := (rel.val k).isSome_eq
  rw [Option.isSome_map] at r
  rw [← r]
  exact q _ (I.tok _)
theorem dd_write {h' : Heap} {t' : Nat} {xs : List (PyData × Addr × Value)} (I : Inv X pins σ H s) (e : H a = some (dO a es0 ep0)) (hs : Heap.SameBut a s.heap h') (dd : h'.DictOfH (dataKind X.prog X.w) a xs) :
    ∃ es ep, Inv X pins σ (upd H a (dO a es ep)) { s with heap := h', toks := t' } ∧ es.toList = xs.map (rowD X.w) ∧ (xs.map (·.1)).Nodup := by
  obtain ⟨q, es, ep, hq, h2, h3, h4, _, h5⟩ := dd
  refine ⟨es, ep, d_write I (by rw [e]; exact True.intro) hs ⟨q, hq⟩ ⟨⟨q, hq, h2, h3⟩, ⟨q, hq⟩, fun h1 h2' ⟨o, k1, k2, k3⟩ kk => ⟨o, kk _ k1, k2, k3⟩⟩, h4, h5⟩
theorem dd_setItem {G : Hp} {v : V} {r : Value} {Q : Unit → Shared → Prop} (hu : A.units + 9 < cLine) (I : Inv X pins σ H s) (e : H a = some o) (g : Same G H) (h : DD X.K X.w G a o kvs) (hb : KeyV X.K G b k) (hl : kvs.length < sizeLine) (rv : RelV v r)
    (q : ∀ o' s', DD X.K X.w G a o' (putK kvs k v) → Inv X pins σ (upd H a o') s' → Q () s') : wpAny (model X.prog X.w) A (setItem (.ref a) (.ref b) r) Q E s := by
  obtain ⟨h1, h2, es, ep, ys, rfl, h4, h5, h6⟩ := h
  obtain ⟨⟨ob, k1, k2, k3⟩, _⟩ := I.hok a _ e
  have rel := h6.keeps g
  have dd : s.heap.DictOfH (dataKind X.prog X.w) a ys := ⟨ob, es, ep, k1, k2, k3, h4, kd_all I rel, h5⟩
  have hz : ys.length ≤ sizeLine := by rw [← Paired.length rel]; exact h1
  refine wpAny_setItem_heap (hsz := hz) (show A.in1.units + 8 < cLine from by have : A.in1.units = A.units + 1 := rfl; omega) (keyV_is I (hb.same g)) dd fun h' dd' hs => ?_
  obtain ⟨es', ep', I', e4, e5⟩ := dd_write I e hs dd'
  exact q _ _ ⟨by have := length_putK kvs k v; omega, h2, es', ep', _, rfl, e4, e5, h6.put k hb rv⟩ I'
/-- a new one -/
theorem dd_new {K : PySem.W.Frag} {w : World} (G : Hp) (h : (a == sysModules) = false) : DD K w G a (dO a #[] 0) [] := ⟨Nat.zero_le _, h, #[], 0, [], rfl, rfl, List.nodup_nil, .nil⟩
end
section
variable {X : Cx} {pos : Pos}
/-- {} -/
theorem pe_dnewD (K : PySem.W.Frag) (w : World) (hw : X.w = w := by rfl) : PE X (.Dict [] [] pos) (fun _ H Q => ∀ p o, H p = none → (∀ G, DD K w G p o []) → Q (.ref p) (upd H p o)) := ⟨fun pins s σ H Q I h => by
  have hs : (s.heap.objs.size == sysModules) = false := beq_eq_false_iff_ne.mpr (Ne.symm (Nat.ne_of_lt I.big))
  refine wpAny_Dict_empty ⟨.ref s.heap.objs.size, _, I.laid (a := s.heap.objs.size) (o := dO s.heap.objs.size #[] 0) (t' := s.toks) (fun _ _ q => Heap.get?_push_of_some _ q) (Nat.le_refl _) ?_, rfl, h _ _ (I.hok.fresh (Nat.le_refl _)) fun G => dd_new G hs⟩
  exact ⟨⟨_, Heap.get?_push_size _ rfl, ⟨rfl, rfl, rfl⟩, rfl⟩, ⟨_, Heap.get?_push_size _ rfl⟩, fun h1 h2 ⟨o, k1, k2, k3⟩ kk => ⟨o, kk _ k1, k2, k3⟩⟩⟩
end
/-! ### readings -/
section
variable {prog : Program} {w : World} {A : Around} {E : Value → Shared → Prop} {s : Shared}
theorem dd_lenM {d : Addr} (hd : (d == sysModules) = false) {xs : List (PyData × Addr × Value)} :
    MeetsIn prog w (Builtin.«dict.__len__» ⟨[.ref d], []⟩) (fun _ R s => s.heap.DictOfH (dataKind prog w) d xs ∧ R (.ok (.ret (.int xs.length s.toks))) { s with toks := s.toks + 1 }) :=
  .of_wp fun A R s ⟨hm, h⟩ => by
    obtain ⟨o, es, ep, ho, hc, hdat, he, hk, hn⟩ := hm
    show wpAny _ _ (dictSize d >>= _) _ _ s
    unfold dictSize
    refine wpAny_bind (wpAny_bind (wpAny_dictEntries ho hdat (wpAny_pure ?_)))
    show wpAny _ _ (Builtin.Dict.pendingCount d >>= _) _ _ s
    refine wpAny_bind (wpAny_pendingCount_other hd ?_)
    refine wpAny_ret_mkInt ?_
    have : es.size = xs.length := size_of_entries he
    rw [Nat.add_zero, this]
    exact h
theorem dd_len {d : Addr} {xs : List (PyData × Addr × Value)} {Q : Value → Shared → Prop} (hd : (d == sysModules) = false) (hm : s.heap.DictOfH (dataKind prog w) d xs) (hfit : (xs.length : Int) < 2 ^ 63)
    (h : Q (.int xs.length (s.toks + 1)) { s with toks := s.toks + 1 + 1 }) : wpAny (model prog w) A (call (.builtin "len") [.ref d]) Q E s := by
  refine Calls.call_function_entry kind_len plain_len entry_len (args_len1 _) ?_
  unfold Builtin.«len»
  refine wpAny_bind (m := oneArg "len" _) (wpAny_pure ?_)
  refine wpAny_bind (m := callSpecial? (.ref d) (Str.ofString "__len__")) (wpAny_callSpecial?_slot (name := Str.ofString "__len__") hm.typeIs F.slot_dict_len
    (call_meetsIn F.slot_dict_len hm.typeIs F.entry_dict_len (F.args_dict_len_1 _) (dd_lenM hd) ⟨hm, ?_⟩))
  show wpAny _ _ _ _ _ { s with toks := s.toks + 1 }
  refine wpAny_bind (wpAny_holding (wpAny_pure ?_))
  refine wpAny_bind (wpAny_letGo ?_)
  show wpAny _ _ (if ((xs.length : Nat) : Int) < 0 then _ else _) _ _ _
  rw [if_neg (by omega)]
  show wpAny _ _ (if ((xs.length : Nat) : Int) ≥ 2 ^ 63 then _ else _) _ _ _
  rw [if_neg (by omega)]
  exact wpAny_bind (wpAny_mkInt (wpAny_pure ⟨_, rfl, h⟩))
end
section
variable {X : Cx} {o i e value : Expr} {pos pos' tpos : Pos} {td ty tv : TE}
theorem _root_.L2.Room.u9 {k : Nat} {A : Around} (r : L2.Room k A) : A.units + 9 < cLine := by have := r.un; omega
/-- d[y] -/
def tDDGet (K : PySem.W.Frag) (w : World) (td ty : TE) : TE := fun σ H Q => td σ H fun x H1 => ty σ H1 fun y H2 => ∃ a b o kvs k v, x = V.ref a ∧ y = V.ref b ∧ H2 a = some o ∧ DD K w H2 a o kvs ∧ KeyV K H2 b k ∧ valV kvs k = some v ∧ Q v H2
theorem pe_ddget (K : PySem.W.Frag) (w : World) (hu : X.A.units + 9 < cLine) (ho : PE X o td) (hi : PE X i ty) (hs : NoSl i) (hK : X.K = K := by rfl) (hw : X.w = w := by rfl) : PE X (.Subscript o i pos) (tDDGet K w td ty) := by
  subst hK
  subst hw
  refine ⟨fun pins s σ H Q I h => ?_⟩
  refine subD_of PySem.F.slot_dict_getitem.lookup hs (thn (ho.run pins s σ H _ I h) fun u s1 ⟨x, H1, I1, rx, q1⟩ => thn (hi.run pins s1 σ H1 _ I1 q1) fun iv s2 ⟨y, H2, I2, ry, a, b, oo, kvs, k, v, ex, ey, ha, hd, hb, l, q2⟩ => ?_)
  subst ex
  subst ey
  obtain rfl : u = Value.ref a := rx
  obtain rfl : iv = Value.ref b := ry
  obtain ⟨_, _, xs, _, dd⟩ := dd_of I2 ha hd
  exact ⟨dd.typeIs, dd_getItem hu I2 ha hd hb l fun w' s3 I3 rw' => ⟨v, H2, I3, rw', q2⟩⟩
def tDDIn (K : PySem.W.Frag) (w : World) (ty td : TE) : TE := fun σ H Q => ty σ H fun y H1 => td σ H1 fun x H2 => ∃ a b o kvs k, x = V.ref a ∧ y = V.ref b ∧ H2 a = some o ∧ DD K w H2 a o kvs ∧ KeyV K H2 b k ∧ Q (.bl (valV kvs k).isSome) H2
def tDDNotIn (K : PySem.W.Frag) (w : World) (ty td : TE) : TE := fun σ H Q => ty σ H fun y H1 => td σ H1 fun x H2 => ∃ a b o kvs k, x = V.ref a ∧ y = V.ref b ∧ H2 a = some o ∧ DD K w H2 a o kvs ∧ KeyV K H2 b k ∧ Q (.bl (!(valV kvs k).isSome)) H2
theorem pc_ddin (K : PySem.W.Frag) (w : World) (hu : X.A.units + 9 < cLine) (hi : PE X i ty) (ho : PE X o td) (hK : X.K = K := by rfl) (hw : X.w = w := by rfl) : PC X .In i o (tDDIn K w ty td) := by
  subst hK
  subst hw
  refine ⟨fun pins s σ H Q I h => ?_⟩
  refine thn (hi.run pins s σ H _ I h) fun iv s1 ⟨y, H1, I1, ry, q1⟩ => thn (ho.run pins s1 σ H1 _ I1 q1) fun u s2 ⟨x, H2, I2, rx, a, b, oo, kvs, k, ex, ey, ha, hd, hb, q2⟩ => ?_
  subst ex
  subst ey
  obtain rfl : u = Value.ref a := rx
  obtain rfl : iv = Value.ref b := ry
  exact dd_in hu I2 ha hd hb fun s3 I3 => ⟨.bl _, H2, I3, rfl, q2⟩
theorem pc_ddnotin (K : PySem.W.Frag) (w : World) (hu : X.A.units + 9 < cLine) (hi : PE X i ty) (ho : PE X o td) (hK : X.K = K := by rfl) (hw : X.w = w := by rfl) : PC X .NotIn i o (tDDNotIn K w ty td) := by
  subst hK
  subst hw
  refine ⟨fun pins s σ H Q I h => ?_⟩
  refine thn (hi.run pins s σ H _ I h) fun iv s1 ⟨y, H1, I1, ry, q1⟩ => thn (ho.run pins s1 σ H1 _ I1 q1) fun u s2 ⟨x, H2, I2, rx, a, b, oo, kvs, k, ex, ey, ha, hd, hb, q2⟩ => ?_
  subst ex
  subst ey
  obtain rfl : u = Value.ref a := rx
  obtain rfl : iv = Value.ref b := ry
  exact dd_notIn hu I2 ha hd hb fun s3 I3 => ⟨.bl _, H2, I3, rfl, q2⟩
/-- d[y] = v; G: the part of the heap that stays -/
def sDDPut (K : PySem.W.Frag) (w : World) (td ty tv : TE) : TS := fun D σ H => tv σ H fun v H1 => td σ H1 fun x H2 => ty σ H2 fun y H3 => ∃ G a b o kvs k, x = V.ref a ∧ y = V.ref b ∧ H3 a = some o ∧ Same G H3 ∧ DD K w G a o kvs ∧ KeyV K G b k ∧ kvs.length < sizeLine ∧
  ∀ o', DD K w G a o' (putK kvs k v) → D.nx σ (upd H3 a o')
theorem ps_ddput (K : PySem.W.Frag) (w : World) (hu : X.A.units + 9 < cLine) (ho : PE X o td) (hi : PE X i ty) (hv : PE X value tv) (hs : swapsWith value (some (.Subscript o i pos')) pos.line X.env = pure false) (hK : X.K = K := by rfl) (hw : X.w = w := by rfl) :
    PS X (.Assign [.Subscript o i pos'] value pos) (sDDPut K w td ty tv) := by
  subst hK
  subst hw
  refine ⟨fun pins s σ H D I h => ?_⟩
  refine wpAny_Assign_Subscript (thn (hv.run pins s σ H _ I h) fun r s1 ⟨v, H1, I1, rv, q1⟩ => thn (ho.run pins s1 σ H1 _ I1 q1) fun u s2 ⟨x, H2, I2, rx, q2⟩ => thn (hi.run pins s2 σ H2 _ I2 q2) fun iv s3 ⟨y, H3, I3, ry, G, a, b, oo, kvs, k, ex, ey, ha, g, hd, hb, hl, q3⟩ => ?_) hs
  subst ex
  subst ey
  obtain rfl : u = Value.ref a := rx
  obtain rfl : iv = Value.ref b := ry
  exact dd_setItem hu I3 ha g hd hb hl rv fun o' s4 d' I4 => ⟨σ, _, I4, q3 o' d'⟩
/-- len(d) -/
theorem call_lenDD (K : PySem.W.Frag) (w : World) (hK : X.K = K := by rfl) (hw : X.w = w := by rfl) : CallR X (.builtin "len") (fun xs H Q => ∃ a o kvs, xs = [V.ref a] ∧ H a = some o ∧ DD K w H a o kvs ∧ Q (.int kvs.length) H) := by
  subst hK
  subst hw
  intro pins s σ H xs us Q I r q
  obtain ⟨a, oo, kvs, ex, ha, hd, q⟩ := q
  subst ex
  obtain ⟨u, eu, rx⟩ := vals1 r
  subst eu
  cases rx
  obtain ⟨z, lo, ys, rel, dd⟩ := dd_of I ha hd
  have e : kvs.length = ys.length := Paired.length rel
  refine dd_len lo dd (by rw [← e]; rw [sizeLine_eq] at z; omega) ?_
  rw [← e]
  exact ⟨.int kvs.length, H, I.tok _, ⟨_, rfl⟩, q⟩
/-- {k: v}; the new dict stands empty while the pair is made -/
def tDD1 (K : PySem.W.Frag) (w : World) (tk tv : TE) : TE := fun σ H Q => ∀ p o0, H p = none → (∀ G, DD K w G p o0 []) → tk σ (upd H p o0) fun y H1 => tv σ H1 fun v H2 => ∃ G b k, y = V.ref b ∧ H2 p = some o0 ∧ Same G H2 ∧ KeyV K G b k ∧ ∀ o', DD K w G p o' [(k, v)] → Q (.ref p) (upd H2 p o')
theorem pe_dd1 (K : PySem.W.Frag) (w : World) {kx vx : Expr} {tk : TE} (hu : X.A.units + 9 < cLine) (hk : PE X kx tk) (hv : PE X vx tv) (hK : X.K = K := by rfl) (hw : X.w = w := by rfl) : PE X (.Dict [some kx] [vx] pos) (tDD1 K w tk tv) := by
  subst hK
  subst hw
  refine ⟨fun pins s σ H Q I h => ?_⟩
  have hs : (s.heap.objs.size == sysModules) = false := beq_eq_false_iff_ne.mpr (Ne.symm (Nat.ne_of_lt I.big))
  have hn := I.hok.fresh (Nat.le_refl s.heap.objs.size)
  have h := h s.heap.objs.size _ hn (fun G => dd_new G hs)
  have I1 : Inv X pins σ (upd H s.heap.objs.size (dO s.heap.objs.size #[] 0)) { s with heap := s.heap.push { cls := .type "dict", data := .dict #[] } } :=
    I.laid (a := s.heap.objs.size) (o := dO s.heap.objs.size #[] 0) (t' := s.toks) (fun _ _ q => Heap.get?_push_of_some _ q) (Nat.le_refl _)
      ⟨⟨_, Heap.get?_push_size _ rfl, ⟨rfl, rfl, rfl⟩, rfl⟩, ⟨_, Heap.get?_push_size _ rfl⟩, fun h1 h2 ⟨o, k1, k2, k3⟩ kk => ⟨o, kk _ k1, k2, k3⟩⟩
  rw [arm_eval_Dict]
  have shape := zip_pairTrees [some kx] [vx] X.env pos rfl rfl
  rw [shape, dictDisplay_pairs _ (by simp [pairTrees]) (by simp [pairTrees])]
  refine wpAny_bind (wpAny_standAt (wpAny_bind ?_))
  unfold subDict
  refine wpAny_bind (wpAny_alloc ?_)
  refine wpAny_bind (wpAny_holding ?_)
  rw [if_pos (by simp [pairTrees])]
  refine wpAny_bind ?_
  refine pairTrees_cons_walk (thn (hk.run pins _ σ _ _ I1 h) fun kv s2 ⟨y, H1, I2, ry, q1⟩ => thn (hv.run pins s2 σ H1 _ I2 q1) fun vv s3 ⟨v, H2, I3, rv, G, b, k, ey, hp, g, hb, q2⟩ => pairTrees_nil_walk ?_)
  subst ey
  obtain rfl : kv = Value.ref b := ry
  refine wpAny_holding ?_
  refine wpAny_bind ?_
  rw [List.forIn_cons]
  obtain ⟨_, _, ys, rel, dd⟩ := dd_of I3 hp (dd_new H2 hs)
  cases rel
  refine wpAny_bind (wpAny_bind (wpAny_dictSet_heap (hsz := by show 0 ≤ sizeLine; exact Nat.zero_le _) (show X.A.units + 8 < cLine by omega) (keyV_is I3 (hb.same g)) dd fun h' dd' hs' => wpAny_pure ?_))
  dsimp only
  rw [List.forIn_nil]
  refine wpAny_pure (wpAny_pure (wpAny_pure ?_))
  obtain ⟨es', ep', I', e4, e5⟩ := dd_write (es0 := #[]) (ep0 := 0) I3 hp hs' dd'
  refine wpAny_pure ⟨.ref s.heap.objs.size, _, I', rfl, q2 _ ⟨by show 1 ≤ sizeLine; rw [sizeLine_eq]; omega, hs, es', ep', _, rfl, e4, e5, ?_⟩⟩
  exact (KD.put (kvs := []) (xs := []) .nil k hb rv)
end
end XL
set_option Elab.async false
set_option linter.all false
set_option maxRecDepth 100000
set_option maxHeartbeats 4000000
/-! XDictC: dict comprehensions whose keys are nested tuples. -/
namespace XL
open PySem PySem.Spec PySem.SeqAt PyProof.Rows L2
section
variable {X : Cx} {pins : List (Addr × Obj)} {σ : L2.St} {H : Hp} {s : Shared} {a b : Addr} {o : HO} {k : PyData} {kvs : List (PyData × V)} {A : Around} {E : Value → Shared → Prop}
theorem dd_dictSet {G : Hp} {v : V} {r : Value} {Q : Unit → Shared → Prop} (hu : A.units + 9 < cLine) (I : Inv X pins σ H s) (e : H a = some o) (g : Same G H) (h : DD X.K X.w G a o kvs) (hb : KeyV X.K G b k) (hl : kvs.length < sizeLine) (rv : RelV v r)
    (q : ∀ o' s', DD X.K X.w G a o' (putK kvs k v) → Inv X pins σ (upd H a o') s' → Q () s') : wpAny (model X.prog X.w) A (dictSet a (.ref b) r) Q E s := by
  obtain ⟨h1, h2, es, ep, ys, rfl, h4, h5, h6⟩ := h
  obtain ⟨⟨ob, k1, k2, k3⟩, _⟩ := I.hok a _ e
  have rel := h6.keeps g
  have dd : s.heap.DictOfH (dataKind X.prog X.w) a ys := ⟨ob, es, ep, k1, k2, k3, h4, kd_all I rel, h5⟩
  have hz : ys.length ≤ sizeLine := by rw [← Paired.length rel]; exact h1
  refine wpAny_dictSet_heap (hsz := hz) (show A.units + 8 < cLine by omega) (keyV_is I (hb.same g)) dd fun h' dd' hs => ?_
  obtain ⟨es', ep', I', e4, e5⟩ := dd_write I e hs dd'
  exact q _ _ ⟨by have := length_putK kvs k v; omega, h2, es', ep', _, rfl, e4, e5, h6.put k hb rv⟩ I'
end
section
variable {X : Cx}
/-- {k: v for target in iter if ..}, the keys nested tuples: D the new dict -/
def tDcD (K : PySem.W.Frag) (w : World) (wi : TI) (g : TG) (tt : TT) (tk tv : TE) (vs : List Nat) : TE := fun σ H Q => wi σ H fun J H1 => ∀ D o0, H1 D = none → (∀ G, DD K w G D o0 []) → ∃ W : Nat → Nat → Hp → Prop, (∃ m, W 0 m (upd H1 D o0)) ∧ ∀ i m H, W i m H →
  (J.stop i H ∧ Q (.ref D) H) ∨ (J.go i H ∧ ∃ Nx : Hp → Prop, (∀ H', Nx H' → ∃ m', m' < m ∧ W (i + 1) m' H') ∧ ∀ x H', J.yld i H x H' → g x (wipe σ vs) H' fun σ2 H2 => wipe σ2 vs = wipe σ vs ∧ tt σ2 H2 fun b H3 =>
    if b = true then tk σ2 H3 fun y H4 => tv σ2 H4 fun z H5 => ∃ G b o kvs k, y = V.ref b ∧ H5 D = some o ∧ Same G H5 ∧ DD K w G D o kvs ∧ KeyV K G b k ∧ kvs.length < sizeLine ∧ ∀ o', DD K w G D o' (putK kvs k z) → Nx (upd H5 D o') else Nx H3)
theorem dcD_core (hu : X.A.units + 9 < cLine) {pins : List (Addr × Obj)} {s : Shared} {σ : St} {H : Hp} {Q : VK} {kx vx tg iter : Expr} {ifs : List Expr} {scope : Scope} {own : List (Str × Nat)} {pos pos' : Pos} {wi : TI} {g : TG} {tt : TT} {tk tv : TE} {use : Option (Value → Sem Unit)} {Qf : Value → Shared → Prop}
    (hc : X.calm = true) (hN : X.N.Nodup) (I : Inv X pins σ H s) (hi : PI X tg iter wi) (ok : BlkOk X.N X.env.scope scope own)
    (hg : ∀ (s : Shared) (H : Hp) (C : Addr) (cl : List (Str × Addr)) (fp : List Addr), PG (X.blk s H scope (compEnvC scope cl C X.env) fp) tg g) (ht : ∀ (s : Shared) (H : Hp) (C : Addr) (cl : List (Str × Addr)) (fp : List Addr), PTs (X.blk s H scope (compEnvC scope cl C X.env) fp) ifs tt)
    (hk : ∀ (s : Shared) (H : Hp) (C : Addr) (cl : List (Str × Addr)) (fp : List Addr), PE (X.blk s H scope (compEnvC scope cl C X.env) fp) kx tk)
    (he : ∀ (s : Shared) (H : Hp) (C : Addr) (cl : List (Str × Addr)) (fp : List Addr), PE (X.blk s H scope (compEnvC scope cl C X.env) fp) vx tv) (hs : ∀ x, foldedSetIterable iter X.env x = pure x)
    (h : tDcD X.K X.w wi g tt tk tv (own.map (·.2)) σ H Q)
    (hRR : ∀ D C s' m H', Inv X pins σ H' s' → Q (.ref D) H' → s'.heap.Ns C m → FpOk X pins H' C → compPost (model X.prog X.w) X.A X.xe use Qf (.ref D) C (.ok .next) s') :
    wpAny (model X.prog X.w) X.A (comprehension (.DictComp kx vx [⟨tg, iter, ifs, 0⟩] scope pos) scope X.env pos' newDict false (eval iter X.env) use) Qf X.xe s := by
  have hfree : ∀ y ∈ scope.names, y.2 = .free → ∃ c, X.env.cells.lookup y.1 = some c := fun y hy e => by
    rcases ok.free y hy e with k | k
    · exact I.ok.has _ (.inl k)
    · exact I.ok.has _ (.inr k)
  refine wpAny_comprehension_free (use := use) rfl hs (closure_ok hfree) ok.kind (fun y hy e => by rw [ok.uniq y hy, e])
    (thn (hi.run pins s σ H _ I h) fun xv s1 hx => thn hx fun itv s2 h2 => ?_)
  obtain ⟨it, fp, tn, J, H2, e, I2, T, st2, f2, q⟩ := h2
  subst e
  refine wpAny_newObj_type (newEnv_comp ?_)
  generalize hD : s2.heap.objs.size = D
  have hDn : H2 D = none := I2.hok.fresh (Nat.le_of_eq hD)
  have hDs : (D == sysModules) = false := by rw [← hD]; exact beq_eq_false_iff_ne.mpr (Ne.symm (Nat.ne_of_lt I2.big))
  obtain ⟨W, ⟨m0, w0⟩, turn⟩ := q D (dO D #[] 0) hDn fun G => dd_new G hDs
  -- the new list
  generalize hs3 : ({ s2 with heap := s2.heap.push { cls := .type "dict", data := .dict #[] } } : Shared) = s3
  have I3 : Inv X pins σ (upd H2 D (dO D #[] 0)) s3 := by
    rw [← hs3]
    refine I2.laid (t' := s2.toks) (fun b o e => Heap.get?_push_of_some _ e) (Nat.le_of_eq hD) ?_
    rw [← hD]
    exact ⟨⟨_, Heap.get?_push_size _ rfl, ⟨rfl, rfl, rfl⟩, rfl⟩, ⟨_, Heap.get?_push_size _ rfl⟩, fun h1 h2 ⟨o, k1, k2, k3⟩ kk => ⟨o, kk _ k1, k2, k3⟩⟩
  have h3 : s3.heap = s2.heap.push { cls := .type "dict", data := .dict #[] } := by rw [← hs3]
  have sz : ∀ b ∈ fp, b < s2.heap.objs.size := fun b hb => by
    obtain ⟨o, e, _⟩ := T.obj _ _ st2 b hb
    exact Heap.lt_size e
  have f3 : ∀ b ∈ fp, FpOk X pins (upd H2 D (dO D #[] 0)) b ∧ b < s3.heap.objs.size := fun b hb => by
    have hlt := sz b hb
    refine ⟨⟨?_, (f2 b hb).2⟩, by rw [h3, Heap.size_push]; exact Nat.lt_succ_of_lt hlt⟩
    rw [upd_ne (by rw [← hD]; exact Nat.ne_of_lt hlt)]
    exact (f2 b hb).1
  have st3 : tn 0 s3.heap := T.keep _ _ _ st2 fun b _ o e => by rw [h3]; exact Heap.get?_push_of_some _ e
  have I4 := block_start I3 ok hN f3
  have pg := hg s3 (upd H2 D (dO D #[] 0)) s3.heap.objs.size (cellsFrom (s3.heap.objs.size + 1) scope.names (cloFrom X.env.cells scope.names [])) fp
  have pt := ht s3 (upd H2 D (dO D #[] 0)) s3.heap.objs.size (cellsFrom (s3.heap.objs.size + 1) scope.names (cloFrom X.env.cells scope.names [])) fp
  have pk := hk s3 (upd H2 D (dO D #[] 0)) s3.heap.objs.size (cellsFrom (s3.heap.objs.size + 1) scope.names (cloFrom X.env.cells scope.names [])) fp
  have pe := he s3 (upd H2 D (dO D #[] 0)) s3.heap.objs.size (cellsFrom (s3.heap.objs.size + 1) scope.names (cloFrom X.env.cells scope.names [])) fp
  show codeAny _ _ (.compStart (.DictComp kx vx [⟨tg, iter, ifs, 0⟩] scope pos) 0 (.ref it) (.ref D) (compEnvC scope (cellsFrom (s3.heap.objs.size + 1) scope.names (cloFrom X.env.cells scope.names [])) s3.heap.objs.size X.env)) (compPost (model X.prog X.w) X.A X.xe use Qf (.ref D) s3.heap.objs.size) { s3 with heap := pushCells (s3.heap.push { cls := .type "dict", data := .dict #[] }) scope.names }
  have nfp : ∀ b ∈ fp, (upd H2 D (dO D #[] 0)) b = none := fun b hb => (f3 b hb).1.1
  generalize hce : compEnvC scope (cellsFrom (s3.heap.objs.size + 1) scope.names (cloFrom X.env.cells scope.names [])) s3.heap.objs.size X.env = ce at I4 pg pt pk pe ⊢
  have cL : ce.locals = s3.heap.objs.size := by subst hce; rfl
  generalize hH3 : upd H2 D (dO D #[] 0) = H3 at I3 I4 pg pt pk pe w0 nfp f3
  generalize hs4 : ({ s3 with heap := pushCells (s3.heap.push { cls := .type "dict", data := .dict #[] }) scope.names } : Shared) = s4 at I4 ⊢
  have st4 : tn 0 s4.heap := T.keep _ _ _ st3 fun b _ o e => by rw [← hs4]; exact pushCells_keeps _ _ _ _ (Heap.get?_push_of_some _ e)
  have stat : ∀ {σ' : St} {H' : Hp} {s' : Shared}, Inv (X.blk s3 H3 scope ce fp) [] σ' H' s' → (∀ b ∈ fp, H' b = none) → ∀ b ∈ fp, FpOk (X.blk s3 H3 scope ce fp) [] H' b := fun {σ' H' s'} I' hn b hb =>
    ⟨hn b hb, (I'.ok.exf b hb).1, I'.ok.exfs b hb, .inl hb, fun x c e => (I'.ok.exf b hb).2 x c e, fun p hp => absurd (show p ∈ ([] : List (Addr × Obj)) ++ [] from hp) (by simp)⟩
  have loop : codeAny (model X.prog X.w) X.A (.compLoop (.DictComp kx vx [⟨tg, iter, ifs, 0⟩] scope pos) 0 (.ref it) (.ref D) ce) (compPost (model X.prog X.w) X.A X.xe use Qf (.ref D) s3.heap.objs.size) s4 := by
    refine compLoop_anyD (fun n s' => ∃ i H', Inv (X.blk s3 H3 scope ce fp) [] (wipe σ (own.map (·.2))) H' s' ∧ tn i s'.heap ∧ (∀ b ∈ fp, H' b = none) ∧ W i n H') ?_ m0 ⟨0, H3, I4, st4, nfp, w0⟩
    rintro n s5 ⟨i, H5, I5, st5, n5, w5⟩
    rcases turn i n H5 w5 with ⟨stop, qq⟩ | ⟨go, Nx, hNx, step⟩
    · have td := T.done (X.blk s3 H3 scope ce fp) rfl rfl rfl hc i [] s5 _ H5 (fun _ _ => False) I5 (stat I5 n5) st5 stop
      refine thnF td fun r s6 ⟨hr, I6⟩ => ?_
      subst hr
      -- back in the def's context
      have I7 : Inv X pins σ H5 s6 := I3.call' (ch := fp) I6.os I6.base I6.hok I6.bare fun b hb => ⟨(f3 b hb).1.2.2.2.1, (f3 b hb).1.2.1, (f3 b hb).1.2.2.2.2.1, (f3 b hb).1.2.2.2.2.2⟩
      have nC : H5 s3.heap.objs.size = none := by
        have z : H5 ce.locals = none := I6.free
        rw [cL] at z
        exact z
      obtain ⟨m, hn, _⟩ := I6.loc
      have hn : s6.heap.Ns ce.locals m := hn
      rw [cL] at hn
      exact hRR D s3.heap.objs.size s6 m H5 I7 qq hn (I3.fpOk (Nat.le_refl _) nC)
    · have ti := T.item (X.blk s3 H3 scope ce fp) rfl rfl rfl hc i [] s5 _ H5 (fun _ _ => False) I5 (stat I5 n5) st5 go
      refine thnF ti fun r s6 ⟨u, hr, h6⟩ => ?_
      subst hr
      refine thnF h6 fun _ s7 ⟨x, H7, I7, r7, y7, st7, n7⟩ => ?_
      have I7' := I7.pinned (stat I7 n7) (T.obj _ _ st7)
      refine thnF (pg.run _ s7 _ H7 x u _ I7' r7 (step x H7 y7)) fun _ s8 ⟨σ8, H8, I8, hw8, q8⟩ => ?_
      refine thnF (pt.run _ s8 σ8 H8 _ I8 q8) fun b s9 ⟨H9, I9, q9⟩ => ?_
      -- the turn's end
      have fin : ∀ {s' : Shared} {H' : Hp}, Inv (X.blk s3 H3 scope ce fp) ([] ++ pinsAt fp s7.heap) σ8 H' s' → Nx H' → ∃ m, m < n ∧ ∃ i H', Inv (X.blk s3 H3 scope ce fp) [] (wipe σ (own.map (·.2))) H' s' ∧ tn i s'.heap ∧ (∀ b ∈ fp, H' b = none) ∧ W i m H' := fun {s' H'} I' nx => by
        obtain ⟨m', hm, w'⟩ := hNx H' nx
        have pin' : ∀ b ∈ fp, ∀ o, s7.heap.get? b = some o → s'.heap.get? b = some o ∧ H' b = none := fun b hb o e =>
          let z := I'.pin (b, o) (List.mem_append_right _ (List.mem_append_right _ (mem_pinsAt hb e)))
          ⟨z.1, z.2.1⟩
        have hl : (wipe σ (own.map (·.2))).length = σ8.length := by rw [← hw8, wipe_length]
        refine ⟨m', hm, i + 1, H', (I'.unpinned (pins := [])).weak hl (fun j v e => ?_), T.keep _ _ _ st7 fun b hb o e => (pin' b hb o e).1, fun b hb => ?_, w'⟩
        · rw [← hw8] at e
          exact (wipe_some e).1
        · obtain ⟨o, e, _⟩ := T.obj _ _ st7 b hb
          exact (pin' b hb o e).2
      cases b with
      | false =>
        simp only [Bool.false_eq_true, if_false] at q9 ⊢
        exact fin I9 q9
      | true =>
        simp only [if_true] at q9 ⊢
        refine thnF (pk.run _ s9 σ8 H9 _ I9 q9) fun z s10 ⟨yk, H10, I10, r10, q10⟩ => ?_
        refine thnF (pe.run _ s10 σ8 H10 _ I10 q10) fun z2 s11 ⟨yv, H11, I11, r11, G, b, o, kvs, k, ek, hD11, g11, dd11, kb11, hz11, nx⟩ => ?_
        subst ek
        obtain rfl : z = Value.ref b := r10
        exact dd_dictSet (X := X.blk s3 H3 scope ce fp) hu I11 hD11 g11 dd11 kb11 hz11 r11 fun o' s12 d12 I12 => fin I12 (nx o' d12)
  exact codeAny_compStart_dict loop (T.self X.A 0 _ _ _ st4 loop)
/-- as a value -/
theorem pe_dcD (K : PySem.W.Frag) (w : World) (hu : X.A.units + 9 < cLine) {kx vx tg iter : Expr} {ifs : List Expr} {scope : Scope} {own : List (Str × Nat)} {pos : Pos} {wi : TI} {g : TG} {tt : TT} {tk tv : TE} (hc : X.calm = true) (hN : X.N.Nodup) (hi : PI X tg iter wi) (ok : BlkOk X.N X.env.scope scope own)
    (hg : ∀ (s : Shared) (H : Hp) (C : Addr) (cl : List (Str × Addr)) (fp : List Addr), PG (X.blk s H scope (compEnvC scope cl C X.env) fp) tg g) (ht : ∀ (s : Shared) (H : Hp) (C : Addr) (cl : List (Str × Addr)) (fp : List Addr), PTs (X.blk s H scope (compEnvC scope cl C X.env) fp) ifs tt)
    (hk : ∀ (s : Shared) (H : Hp) (C : Addr) (cl : List (Str × Addr)) (fp : List Addr), PE (X.blk s H scope (compEnvC scope cl C X.env) fp) kx tk)
    (he : ∀ (s : Shared) (H : Hp) (C : Addr) (cl : List (Str × Addr)) (fp : List Addr), PE (X.blk s H scope (compEnvC scope cl C X.env) fp) vx tv) (hs : ∀ x, foldedSetIterable iter X.env x = pure x := by intro _; rfl) (hK : X.K = K := by rfl) (hw : X.w = w := by rfl) :
    PE X (.DictComp kx vx [⟨tg, iter, ifs, 0⟩] scope pos) (tDcD K w wi g tt tk tv (own.map (·.2))) := by
  subst hK hw
  refine ⟨fun pins s σ H Q I h => ?_⟩
  rw [arm_eval_DictComp]
  refine dcD_core hu hc hN I hi ok hg ht hk he hs h fun D C s' m H' I' q hn f => ⟨m, hn, fun h'' sb => ?_⟩
  obtain ⟨f0, f1, f2, f3, f4, f5⟩ := f
  exact ⟨.ref D, H', I'.turned (t' := s'.toks) (fun b o hb e => (sb.2 b hb).trans e) f0 f1 f3 f4 f5, rfl, q⟩
/-- name = {..} on one line, the name a local -/
theorem ps_setDcD (K : PySem.W.Frag) (w : World) (hu : X.A.units + 9 < cLine) {i : Nat} {y : Str} {py : Pos} {kx vx tg iter : Expr} {ifs : List Expr} {scope : Scope} {own : List (Str × Nat)} {pos spos : Pos} {wi : TI} {g : TG} {tt : TT} {tk tv : TE} (hc : X.calm = true) (hN : X.N.Nodup) (hy : X.N[i]? = some y) (hyl : X.env.scope.names.lookup y = some .local)
    (hsw : swapsWith (.DictComp kx vx [⟨tg, iter, ifs, 0⟩] scope pos) (some (.Name y py)) spos.line X.env = pure true) (hi : PI X tg iter wi) (ok : BlkOk X.N X.env.scope scope own)
    (hg : ∀ (s : Shared) (H : Hp) (C : Addr) (cl : List (Str × Addr)) (fp : List Addr), PG (X.blk s H scope (compEnvC scope cl C X.env) fp) tg g) (ht : ∀ (s : Shared) (H : Hp) (C : Addr) (cl : List (Str × Addr)) (fp : List Addr), PTs (X.blk s H scope (compEnvC scope cl C X.env) fp) ifs tt)
    (hk : ∀ (s : Shared) (H : Hp) (C : Addr) (cl : List (Str × Addr)) (fp : List Addr), PE (X.blk s H scope (compEnvC scope cl C X.env) fp) kx tk)
    (he : ∀ (s : Shared) (H : Hp) (C : Addr) (cl : List (Str × Addr)) (fp : List Addr), PE (X.blk s H scope (compEnvC scope cl C X.env) fp) vx tv) (hs : ∀ x, foldedSetIterable iter X.env x = pure x := by intro _; rfl) (hK : X.K = K := by rfl) (hw : X.w = w := by rfl) :
    PS X (.Assign [.Name y py] (.DictComp kx vx [⟨tg, iter, ifs, 0⟩] scope pos) spos) (tAsg (tDcD K w wi g tt tk tv (own.map (·.2))) (gName i)) := by
  subst hK hw
  refine ⟨fun pins s σ H D I h => ?_⟩
  rw [exec_Assign_Name_used _ _ _ _ hsw]
  refine wpAny_bind (wpAny_standAt (wpAny_bind ?_))
  show wpAny _ X.A (do let _ ← comprehension (.DictComp kx vx [⟨tg, iter, ifs, 0⟩] scope pos) scope X.env (firstIterPos [⟨tg, iter, ifs, 0⟩] pos) newDict false (eval iter X.env) (some (assign (.Name y py) X.env))) _ _ s
  have h : tDcD X.K X.w wi g tt tk tv (own.map (·.2)) σ H (fun x H1 => gName i x σ H1 D.nx) := h
  refine wpAny_bind (thn (dcD_core hu (Qf := fun _ s' => SP X pins D .next s') hc hN I hi ok hg ht hk he hs h fun L C s' m H' I' q hn f => ?_) fun _ s' hq => wpAny_pure (wpAny_pure hq))
  show wpAny _ _ (assign (.Name y py) X.env (.ref L)) _ _ _
  refine wpAny_assign_Name (store_ok2 (v := V.ref L) I' hN hy (.inl hyl) rfl (fun s2 I2 ⟨a, sb, ha⟩ => ?_) (.inr hyl))
  obtain ⟨f0, f1, f2, f3, f4, f5⟩ := f
  have haC : C ≠ a := by
    rcases ha with z | z
    · rw [z]; exact f1
    · exact fun e => f4 y a z e.symm
  refine ⟨m, hn.sameBut sb haC, fun h3 sb3 => ?_⟩
  exact ⟨_, H', I2.turned (t' := s2.toks) (fun b o hb e => (sb3.2 b hb).trans e) f0 f1 f3 f4 f5, q⟩
end
end XL
set_option Elab.async false
set_option linter.all false
set_option maxRecDepth 100000
set_option maxHeartbeats 4000000
/-! XSim: what is proved of a piece of code where every sleeping generator is deaf holds where they are not, and they sleep on. -/
namespace XL
open PySem
open Sem (wp)

/-- a sleeping generator that can't be woken -/
def mute : GenState → GenState
  | .suspended _ l c p fs cl => .suspended (fun _ => .unsupported "") l c p fs cl
  | .fresh c => .fresh c
  | .running => .running
  | .finished => .finished
def slp : GenState → Bool
  | .suspended .. => true
  | _ => false
theorem mute_seen (x : GenState) : (mute x).seen = x.seen := by cases x <;> rfl
theorem mute_bare (x : GenState) : (mute x).bare = x.bare := by cases x <;> rfl
theorem mute_fresh {x : GenState} {c : Code} (h : mute x = .fresh c) : x = .fresh c := by cases x <;> first | exact h | cases h
theorem mute_run {x : GenState} (h : mute x = .running) : x = .running := by cases x <;> first | exact h | cases h
theorem mute_fin {x : GenState} (h : mute x = .finished) : x = .finished := by cases x <;> first | exact h | cases h
def muteB (B : Nat → Bool) (s : Shared) : Shared := { s with gens := s.gens.mapIdx fun j x => if B j = true then mute x else x }
section
variable {B : Nat → Bool} {G0 : Array GenState} {s : Shared} {g : Nat} {x : GenState}
theorem muteB_get (j : Nat) : (muteB B s).gens[j]? = (s.gens[j]?).map fun x => if B j = true then mute x else x := by
  unfold muteB
  simp
theorem muteB_size : (muteB B s).gens.size = s.gens.size := by
  unfold muteB
  simp
theorem shared_ext {a b : Shared} (h1 : a.heap = b.heap) (h2 : a.gens = b.gens) (h3 : a.drawn = b.drawn) (h4 : a.toks = b.toks) (h5 : a.os = b.os) : a = b := by
  cases a
  cases b
  simp only at h1 h2 h3 h4 h5
  subst h1 h2 h3 h4 h5
  rfl
theorem get_setGen {j : Nat} : (s.setGen g x).gens[j]? = if g = j ∧ j < s.gens.size then some x else s.gens[j]? := by
  show (s.gens.setIfInBounds g x)[j]? = _
  rw [Array.getElem?_setIfInBounds]
  by_cases e : g = j
  · subst e
    by_cases h : g < s.gens.size
    · simp [h]
    · simp [h]
  · simp [e]
theorem muteB_setGen (hg : B g = false) : muteB B (s.setGen g x) = (muteB B s).setGen g x := by
  refine shared_ext rfl ?_ rfl rfl rfl
  refine Array.ext_getElem? fun j => ?_
  rw [muteB_get, get_setGen, get_setGen, muteB_get, muteB_size]
  by_cases e : g = j ∧ j < s.gens.size
  · rw [if_pos e, if_pos e, ← e.1]
    simp [hg]
  · rw [if_neg e, if_neg e]
theorem muteB_push (h : B s.gens.size = false) : muteB B { s with gens := s.gens.push x } = { muteB B s with gens := (muteB B s).gens.push x } := by
  refine shared_ext rfl ?_ rfl rfl rfl
  refine Array.ext_getElem? fun j => ?_
  rw [muteB_get]
  show ((s.gens.push x)[j]?).map _ = ((muteB B s).gens.push x)[j]?
  rw [Array.getElem?_push, Array.getElem?_push, muteB_size, muteB_get]
  by_cases e : j = s.gens.size
  · subst e
    simp [h]
  · rw [if_neg e, if_neg e]
/-- the sleepers at B stand as in G0 -/
def Kp (B : Nat → Bool) (G0 : Array GenState) (s : Shared) : Prop := ∀ j, B j = true → ∃ x, G0[j]? = some x ∧ slp x = true ∧ s.gens[j]? = some x
/-- no frame of the others is a generator's mark -/
def FrOk (B : Nat → Bool) (s : Shared) : Prop := ∀ j k l c p fs cl, s.gens[j]? = some (.suspended k l c p fs cl) → B j = false → splitAtGen fs = none
def EndOk : End → Prop
  | .ret _ => True
  | .susp _ _ _ _ _ _ fs => splitAtGen fs = none
theorem Kp.size (h : Kp B G0 s) : B s.gens.size = false := by
  cases e : B s.gens.size with
  | false => rfl
  | true =>
    obtain ⟨x, _, _, h⟩ := h _ e
    simp at h
theorem Kp.setGen (h : Kp B G0 s) (hg : B g = false) : Kp B G0 (s.setGen g x) := fun j hj => by
  obtain ⟨y, h1, h2, h3⟩ := h j hj
  refine ⟨y, h1, h2, ?_⟩
  rw [get_setGen, if_neg (fun e => by rw [e.1, hj] at hg; cases hg)]
  exact h3
theorem FrOk.setGen (h : FrOk B s) (hx : ∀ k l c p fs cl, x = .suspended k l c p fs cl → splitAtGen fs = none) : FrOk B (s.setGen g x) := fun j k l c p fs cl e hj => by
  rw [get_setGen] at e
  split at e
  · exact hx k l c p fs cl (Option.some.inj e)
  · exact h j k l c p fs cl e hj
theorem gen_un {c : GenState} (K : Kp B G0 s) (h : (muteB B s).gens[g]? = some c) (hc : slp c = false) : B g = false ∧ s.gens[g]? = some c := by
  rw [muteB_get] at h
  cases e : s.gens[g]? with
  | none => rw [e] at h; cases h
  | some y =>
    rw [e] at h
    have h := Option.some.inj h
    cases eb : B g with
    | false =>
      rw [eb] at h
      exact ⟨rfl, congrArg some h⟩
    | true =>
      rw [eb] at h
      obtain ⟨z, _, h2, h3⟩ := K g eb
      rw [e] at h3
      cases h3
      cases y with
      | suspended =>
        simp only [↓reduceIte, mute] at h
        rw [← h] at hc
        cases hc
      | _ => cases h2
theorem gen_sus {k : Resume → Sem Fin} {l : List Value} {c : Code} {p : Pos} {fs : List Frame} {cl : Bool} (h : (muteB B s).gens[g]? = some (.suspended k l c p fs cl)) :
    (B g = false ∧ s.gens[g]? = some (.suspended k l c p fs cl)) ∨ (∀ r, k r = .unsupported "") := by
  rw [muteB_get] at h
  cases e : s.gens[g]? with
  | none => rw [e] at h; cases h
  | some y =>
    rw [e] at h
    have h := Option.some.inj h
    cases eb : B g with
    | false =>
      rw [eb] at h
      exact .inl ⟨rfl, congrArg some h⟩
    | true =>
      rw [eb] at h
      refine .inr fun r => ?_
      cases y with
      | suspended =>
        simp only [↓reduceIte, mute] at h
        cases h
        rfl
      | _ => cases h
end
section
variable {M : Model}
theorem no_unsup {Γ : Ctx} {p : Pos} {fs : List Frame} {s s' : Shared} {e : End} : ∀ {t : Sem Fin}, Runs M Γ p t fs s e s' → t = .unsupported "" → False := by
  intro t h
  induction h <;> intro e <;> first | (cases e; done) | simp_all
theorem split_app {a b : List Frame} (h : splitAtGen a = none) (h' : splitAtGen b = none) : splitAtGen (a ++ b) = none := by
  induction a with
  | nil => exact h'
  | cons f r ih =>
    cases f with
    | gen => cases h
    | ret =>
      have h : (splitAtGen r).map _ = none := h
      rw [Option.map_eq_none_iff] at h
      show (splitAtGen (r ++ b)).map _ = none
      rw [ih h]
      rfl
theorem split_ret {k : Result → Sem Fin} {hd : Option Value} {gd : Bool} {l kp : List Value} {c : Code} {p : Pos} {fs : List Frame} (h : splitAtGen (.ret k hd gd l c p kp :: fs) = none) : splitAtGen fs = none := by
  have h : (splitAtGen fs).map _ = none := h
  rwa [Option.map_eq_none_iff] at h
theorem genState_ok {e : End} (h : EndOk e) : ∀ k l c p fs cl, e.genState = .suspended k l c p fs cl → splitAtGen fs = none := fun k l c p fs cl q => by
  cases e with
  | ret r => cases q
  | susp v g l k c p fs =>
    cases q
    exact h
theorem sim {B : Nat → Bool} {G0 : Array GenState} {Γ : Ctx} {p : Pos} {t : Sem Fin} {fs : List Frame} {sm sm' : Shared} {e : End} (h : Runs M Γ p t fs sm e sm') :
    ∀ s, sm = muteB B s → Kp B G0 s → FrOk B s → splitAtGen fs = none → ∃ s', Runs M Γ p t fs s e s' ∧ sm' = muteB B s' ∧ Kp B G0 s' ∧ FrOk B s' ∧ EndOk e := by
  induction h with
  | done => rintro s rfl K F _; exact ⟨s, .done, rfl, K, F, trivial⟩
  | raise => rintro s rfl K F _; exact ⟨s, .raise, rfl, K, F, trivial⟩
  | again hq _ ih =>
    rintro s rfl K F _
    obtain ⟨s', r, z⟩ := ih s rfl K F rfl
    exact ⟨s', .again hq r, z⟩
  | rule _ ih =>
    rintro s rfl K F _
    obtain ⟨s', r, z⟩ := ih s rfl K F rfl
    exact ⟨s', .rule r, z⟩
  | «at» _ ih =>
    rintro s rfl K F _
    obtain ⟨s', r, z⟩ := ih s rfl K F rfl
    exact ⟨s', .at r, z⟩
  | load ho _ ih =>
    rintro s rfl K F _
    obtain ⟨s', r, z⟩ := ih s rfl K F rfl
    exact ⟨s', .load ho r, z⟩
  | @update _ _ a f _ _ _ _ _ ho _ ih =>
    rintro s rfl K F _
    obtain ⟨s', r, z⟩ := ih { s with heap := s.heap.update _ _ } rfl K F rfl
    exact ⟨s', .update ho r, z⟩
  | loadIfAlive _ ih =>
    rintro s rfl K F _
    obtain ⟨s', r, z⟩ := ih s rfl K F rfl
    exact ⟨s', .loadIfAlive r, z⟩
  | point _ ih =>
    rintro s rfl K F _
    obtain ⟨s', r, z⟩ := ih s rfl K F rfl
    exact ⟨s', .point r, z⟩
  | alloc _ ih =>
    rintro s rfl K F _
    obtain ⟨s', r, z⟩ := ih { s with heap := s.heap.push _ } rfl K F rfl
    exact ⟨s', .alloc r, z⟩
  | fresh _ ih =>
    rintro s rfl K F _
    obtain ⟨s', r, z⟩ := ih { s with toks := s.toks + 1 } rfl K F rfl
    exact ⟨s', .fresh r, z⟩
  | ask _ ih =>
    rintro s rfl K F _
    obtain ⟨s', r, z⟩ := ih s rfl K F rfl
    exact ⟨s', .ask r, z⟩
  | choose hn _ ih =>
    rintro s rfl K F _
    obtain ⟨s', r, z⟩ := ih { s with drawn := s.drawn.bump _ } rfl K F rfl
    exact ⟨s', .choose hn r, z⟩
  | os _ ih =>
    rintro s rfl K F _
    obtain ⟨s', r, z⟩ := ih { s with os := (Os.step s.os _).1 } rfl K F rfl
    exact ⟨s', .os r, z⟩
  | handled _ ih =>
    rintro s rfl K F _
    obtain ⟨s', r, z⟩ := ih s rfl K F rfl
    exact ⟨s', .handled r, z⟩
  | genState hg _ ih =>
    rintro s rfl K F _
    obtain ⟨s', r, z⟩ := ih s rfl K F rfl
    rw [muteB_get] at hg
    obtain ⟨y, hy, e⟩ := Option.map_eq_some_iff.mp hg
    refine ⟨s', .genState hy ?_, z⟩
    subst e
    split at r
    · rw [mute_seen] at r
      exact r
    · exact r
  | stack _ ih =>
    rintro s rfl K F _
    obtain ⟨s', r, z⟩ := ih s rfl K F rfl
    exact ⟨s', .stack r, z⟩
  | thread _ ih =>
    rintro s rfl K F _
    obtain ⟨s', r, z⟩ := ih s rfl K F rfl
    exact ⟨s', .thread r, z⟩
  | @newGen _ _ k _ c _ _ _ ih =>
    rintro s rfl K F _
    have hsz := K.size
    obtain ⟨s', r, z⟩ := ih { s with gens := s.gens.push (.fresh _) } (muteB_push hsz).symm (fun j hj => by
      obtain ⟨x, h1, h2, h3⟩ := K j hj
      refine ⟨x, h1, h2, ?_⟩
      show (s.gens.push _)[j]? = _
      rw [Array.getElem?_push, if_neg (fun e => by rw [e, hsz] at hj; cases hj)]
      exact h3) (fun j k l c' p fs cl e hj => by
      have e : (s.gens.push _)[j]? = _ := e
      rw [Array.getElem?_push] at e
      split at e
      · cases e
      · exact F j k l c' p fs cl e hj) rfl
    refine ⟨s', .newGen ?_, z⟩
    rw [muteB_size] at r
    exact r
  | call _ _ ih1 ih2 =>
    rintro s rfl K F _
    obtain ⟨s1, r1, rfl, K1, F1, _⟩ := ih1 s rfl K F rfl
    obtain ⟨s2, r2, z⟩ := ih2 s1 rfl K1 F1 rfl
    exact ⟨s2, .call r1 r2, z⟩
  | callSusp _ ih =>
    rintro s rfl K F _
    obtain ⟨s1, r1, rfl, K1, F1, e1⟩ := ih s rfl K F rfl
    exact ⟨s1, .callSusp r1, rfl, K1, F1, split_app e1 rfl⟩
  | yield => rintro s rfl K F _; exact ⟨s, .yield, rfl, K, F, rfl⟩
  | resumeFresh hg _ hq _ ih1 ih2 =>
    rintro s rfl K F _
    obtain ⟨hb, hs⟩ := gen_un K hg rfl
    obtain ⟨s1, r1, rfl, K1, F1, e1⟩ := ih1 _ (muteB_setGen hb).symm (K.setGen hb) (F.setGen fun _ _ _ _ _ _ q => nomatch q) rfl
    obtain ⟨s2, r2, z⟩ := ih2 _ (muteB_setGen hb).symm (K1.setGen hb) (F1.setGen (genState_ok e1)) rfl
    exact ⟨s2, .resumeFresh hs r1 hq r2, z⟩
  | resumeSuspended hg hr hq _ ih1 ih2 =>
    rintro s rfl K F _
    rcases gen_sus hg with ⟨hb, hs⟩ | hk
    · obtain ⟨s1, r1, rfl, K1, F1, e1⟩ := ih1 _ (muteB_setGen hb).symm (K.setGen hb) (F.setGen fun _ _ _ _ _ _ q => nomatch q) (F _ _ _ _ _ _ _ hs hb)
      obtain ⟨s2, r2, z⟩ := ih2 _ (muteB_setGen hb).symm (K1.setGen hb) (F1.setGen (genState_ok e1)) rfl
      exact ⟨s2, .resumeSuspended hs r1 hq r2, z⟩
    · exact (no_unsup hr (hk _)).elim
  | resumeJustStarted hg hv _ ih =>
    rintro s rfl K F _
    obtain ⟨hb, hs⟩ := gen_un K hg rfl
    obtain ⟨s', r, z⟩ := ih s rfl K F rfl
    exact ⟨s', .resumeJustStarted hs hv r, z⟩
  | resumeThrowFresh hg _ ih =>
    rintro s rfl K F _
    obtain ⟨hb, hs⟩ := gen_un K hg rfl
    obtain ⟨s', r, z⟩ := ih _ (muteB_setGen hb).symm (K.setGen hb) (F.setGen fun _ _ _ _ _ _ q => nomatch q) rfl
    exact ⟨s', .resumeThrowFresh hs r, z⟩
  | resumeRunning hg _ ih =>
    rintro s rfl K F _
    obtain ⟨hb, hs⟩ := gen_un K hg rfl
    obtain ⟨s', r, z⟩ := ih s rfl K F rfl
    exact ⟨s', .resumeRunning hs r, z⟩
  | resumeFinished hg _ ih =>
    rintro s rfl K F _
    obtain ⟨hb, hs⟩ := gen_un K hg rfl
    obtain ⟨s', r, z⟩ := ih s rfl K F rfl
    exact ⟨s', .resumeFinished hs r, z⟩
  | segRet _ _ ih1 ih2 =>
    rintro s rfl K F hf
    obtain ⟨s1, r1, rfl, K1, F1, _⟩ := ih1 s rfl K F rfl
    obtain ⟨s2, r2, z⟩ := ih2 s1 rfl K1 F1 (split_ret hf)
    exact ⟨s2, .segRet r1 r2, z⟩
  | segGen _ _ _ _ => intro s _ _ _ hf; cases hf
  | segSuspOut hsp _ ih =>
    rintro s rfl K F hf
    obtain ⟨s1, r1, rfl, K1, F1, e1⟩ := ih s rfl K F rfl
    exact ⟨s1, .segSuspOut hsp r1, rfl, K1, F1, split_app e1 hsp⟩
  | segSuspGen hsp _ _ _ _ _ => intro s _ _ _ hf; rw [hsp] at hf; cases hf
theorem sim_wakes {B : Nat → Bool} {G0 : Array GenState} {Γ : Ctx} {p : Pos} {g : Nat} {r : Resume} {s sm' : Shared} {res : GenResult} (h : Wakes M Γ p g r (muteB B s) res sm') (K : Kp B G0 s) (F : FrOk B s) :
    ∃ s', Wakes M Γ p g r s res s' ∧ sm' = muteB B s' ∧ Kp B G0 s' ∧ FrOk B s' := by
  unfold Wakes at h
  split at h
  · exact h.elim
  · rename_i c hg
    obtain ⟨hb, hs⟩ := gen_un K hg rfl
    split at h
    · obtain ⟨e1, s1, hr, hq, h1, h2⟩ := h
      obtain ⟨s1', r1, rfl, K1, F1, e1'⟩ := sim hr _ (muteB_setGen hb).symm (K.setGen hb) (F.setGen fun _ _ _ _ _ _ q => nomatch q) rfl
      refine ⟨s1'.setGen g e1.genState, ?_, ?_, K1.setGen hb, F1.setGen (genState_ok e1')⟩
      · unfold Wakes
        rw [hs]
        exact ⟨e1, s1', r1, hq, h1, rfl⟩
      · rw [h2, muteB_setGen hb]
    · refine ⟨s, ?_, h.2, K, F⟩
      unfold Wakes
      rw [hs]
      rename_i v hx
      cases v <;> first | exact ⟨h.1, rfl⟩ | exact (hx rfl).elim
    · refine ⟨s.setGen g .finished, ?_, ?_, K.setGen hb, F.setGen fun _ _ _ _ _ _ q => nomatch q⟩
      · unfold Wakes
        rw [hs]
        exact ⟨h.1, rfl⟩
      · rw [h.2, muteB_setGen hb]
  · rename_i k l c p0 fs cl hg
    obtain ⟨e1, s1, hr, hq, h1, h2⟩ := h
    rcases gen_sus hg with ⟨hb, hs⟩ | hk
    · obtain ⟨s1', r1, rfl, K1, F1, e1'⟩ := sim hr _ (muteB_setGen hb).symm (K.setGen hb) (F.setGen fun _ _ _ _ _ _ q => nomatch q) (F _ _ _ _ _ _ _ hs hb)
      refine ⟨s1'.setGen g e1.genState, ?_, ?_, K1.setGen hb, F1.setGen (genState_ok e1')⟩
      · unfold Wakes
        rw [hs]
        exact ⟨e1, s1', r1, hq, h1, rfl⟩
      · rw [h2, muteB_setGen hb]
    · exact (no_unsup hr (hk _)).elim
  · rename_i hg
    obtain ⟨hb, hs⟩ := gen_un K hg rfl
    refine ⟨s, ?_, h.2, K, F⟩
    unfold Wakes
    rw [hs]
    exact ⟨h.1, rfl⟩
  · rename_i hg
    obtain ⟨hb, hs⟩ := gen_un K hg rfl
    refine ⟨s, ?_, h.2, K, F⟩
    unfold Wakes
    rw [hs]
    exact ⟨h.1, rfl⟩
theorem wp_sim {α : Type} {B : Nat → Bool} {G0 : Array GenState} (Γ : Ctx) (t : Sem α) : ∀ (Q : α → Pos → Shared → Prop) (E : Value → Pos → Shared → Prop) (p : Pos) (s : Shared), Kp B G0 s → FrOk B s → wp M Γ t Q E p (muteB B s) →
    wp M Γ t (fun a p' s' => Kp B G0 s' ∧ FrOk B s' ∧ Q a p' (muteB B s')) (fun e p' s' => Kp B G0 s' ∧ FrOk B s' ∧ E e p' (muteB B s')) p s := by
  induction t with
  | pure a => intro Q E p s K F h; exact ⟨K, F, h⟩
  | raise e => intro Q E p s K F h; exact ⟨K, F, h⟩
  | unsupported _ => intro Q E p s _ _ h; exact h
  | finish _ => intro Q E p s _ _ h; exact h
  | rule _ k ih => intro Q E p s K F h; exact ih () Q E p s K F h
  | «at» p' k ih => intro Q E p s K F h; exact ih () Q E p' s K F h
  | load a _ k ih => intro Q E p s K F h; obtain ⟨o, ho, h⟩ := h; exact ⟨o, ho, ih o Q E p s K F h⟩
  | update a _ f k ih => intro Q E p s K F h; exact ⟨h.1, ih () Q E p { s with heap := s.heap.update a f } K F h.2⟩
  | loadIfAlive a k ih => intro Q E p s K F h; exact ih _ Q E p s K F h
  | point _ k ih => intro Q E p s K F h; exact ih () Q E p s K F h
  | register _ _ => intro Q E p s _ _ h; exact h
  | alloc o k ih => intro Q E p s K F h; exact ih _ Q E p { s with heap := s.heap.push o } K F h
  | fresh k ih => intro Q E p s K F h; exact ih _ Q E p { s with toks := s.toks + 1 } K F h
  | ask k ih => intro Q E p s K F h; exact ih _ Q E p s K F h
  | choose src m k ih => intro Q E p s K F h; exact ⟨h.1, ih _ Q E p { s with drawn := s.drawn.bump src } K F h.2⟩
  | os q _ k ih => intro Q E p s K F h; exact ih _ Q E p { s with os := (Os.step s.os q).1 } K F h
  | call c hd _ _ k ih =>
    intro Q E p s K F h
    obtain ⟨r, s', hr, h⟩ := h
    obtain ⟨s1, r1, rfl, K1, F1, _⟩ := sim hr s rfl K F rfl
    exact ⟨r, s1, r1, ih r Q E p s1 K1 F1 h⟩
  | handled own k ih => intro Q E p s K F h; exact ih _ Q E p s K F h
  | genState g k ih =>
    intro Q E p s K F h
    obtain ⟨st, hs, h⟩ := h
    rw [muteB_get] at hs
    obtain ⟨y, hy, e⟩ := Option.map_eq_some_iff.mp hs
    refine ⟨y, hy, ih _ Q E p s K F ?_⟩
    have q : y.seen = st.seen := by
      rw [← e]
      split
      · exact (mute_seen y).symm
      · rfl
    rw [q]
    exact h
  | newGen c k ih =>
    intro Q E p s K F h
    have hsz := K.size
    refine ih s.gens.size Q E p { s with gens := s.gens.push (.fresh c) } (fun j hj => by
      obtain ⟨x, h1, h2, h3⟩ := K j hj
      refine ⟨x, h1, h2, ?_⟩
      show (s.gens.push _)[j]? = _
      rw [Array.getElem?_push, if_neg (fun e => by rw [e, hsz] at hj; cases hj)]
      exact h3) (fun j k l c' p fs cl e hj => by
      have e : (s.gens.push _)[j]? = _ := e
      rw [Array.getElem?_push] at e
      split at e
      · cases e
      · exact F j k l c' p fs cl e hj) ?_
    rw [muteB_push hsz]
    have h : wp M Γ (k (muteB B s).gens.size) Q E p { muteB B s with gens := (muteB B s).gens.push (.fresh c) } := h
    rw [muteB_size] at h
    exact h
  | resume g r _ k ih =>
    intro Q E p s K F h
    obtain ⟨res, s', hw, h⟩ := h
    obtain ⟨s1, w1, rfl, K1, F1⟩ := sim_wakes hw K F
    exact ⟨res, s1, w1, ih res Q E p s1 K1 F1 h⟩
  | yield _ _ _ _ => intro Q E p s _ _ h; exact h
  | stack k ih => intro Q E p s K F h; exact ih _ Q E p s K F h
  | fork _ _ => intro Q E p s _ _ h; exact h
  | thread k ih => intro Q E p s K F h; exact ih _ Q E p s K F h
  | await _ _ _ _ _ => intro Q E p s _ _ h; exact h
/-- those that sleep in s -/
def sleepers (s : Shared) (j : Nat) : Bool := match s.gens[j]? with
  | some x => slp x
  | none => false
theorem kp_sleepers (s : Shared) : Kp (sleepers s) s.gens s := fun j hj => by
  unfold sleepers at hj
  split at hj
  · rename_i x e
    exact ⟨x, e, hj, e⟩
  · cases hj
theorem fr_sleepers (s : Shared) : FrOk (sleepers s) s := fun j k l c p fs cl e hj => by
  unfold sleepers at hj
  rw [e] at hj
  cases hj
theorem wpAny_simB {α : Type} {A : Around} {t : Sem α} {Q : α → Shared → Prop} {E : Value → Shared → Prop} {B : Nat → Bool} {G0 : Array GenState} {s : Shared} (K : Kp B G0 s) (F : FrOk B s) (h : wpAny M A t Q E (muteB B s)) :
    wpAny M A t (fun a s' => Kp B G0 s' ∧ FrOk B s' ∧ Q a (muteB B s')) (fun e s' => Kp B G0 s' ∧ FrOk B s' ∧ E e (muteB B s')) s :=
  fun Γ p hΓ => wp_sim Γ t _ _ p s K F (h Γ p hΓ)
/-- THE RULE: proved where the sleepers are deaf, it holds where they are not, and they sleep on -/
theorem wpAny_sim {α : Type} {A : Around} {t : Sem α} {Q : α → Shared → Prop} {E : Value → Shared → Prop} {s : Shared} (h : wpAny M A t Q E (muteB (sleepers s) s)) :
    wpAny M A t (fun a s' => Kp (sleepers s) s.gens s' ∧ FrOk (sleepers s) s' ∧ Q a (muteB (sleepers s) s')) (fun e s' => Kp (sleepers s) s.gens s' ∧ FrOk (sleepers s) s' ∧ E e (muteB (sleepers s) s')) s :=
  wpAny_simB (kp_sleepers s) (fr_sleepers s) h
end
theorem mute_bareB {B : Nat → Bool} {s : Shared} : PyProof.Rows.AllBare (muteB B s).gens ↔ PyProof.Rows.AllBare s.gens := by
  constructor
  · intro h y hy
    obtain ⟨j, hj, e⟩ := Array.mem_iff_getElem.mp hy
    have q := muteB_get (B := B) (s := s) j
    rw [Array.getElem?_eq_getElem hj, e] at q
    have z := h _ (Array.mem_of_getElem? q)
    split at z
    · rw [mute_bare] at z; exact z
    · exact z
  · intro h y hy
    obtain ⟨j, hj, e⟩ := Array.mem_iff_getElem.mp hy
    have q := muteB_get (B := B) (s := s) j
    rw [Array.getElem?_eq_getElem hj, e] at q
    obtain ⟨z, hz, e2⟩ := Option.map_eq_some_iff.mp q.symm
    have z1 := h z (Array.mem_of_getElem? hz)
    rw [← e2]
    split
    · rw [mute_bare]; exact z1
    · exact z1
/-- the invariant does not hear it -/
theorem inv_mute {X : L2.Cx} {pins : List (Addr × Obj)} {σ : L2.St} {H : L2.Hp} {B : Nat → Bool} {s : Shared} : L2.Inv X pins σ H (muteB B s) ↔ L2.Inv X pins σ H s :=
  ⟨fun I => ⟨I.ok, I.os, mute_bareB.mp I.bare, I.base, I.loc, I.cell, I.free, I.freeC, I.pin, I.hok, I.len⟩,
   fun I => ⟨I.ok, I.os, mute_bareB.mpr I.bare, I.base, I.loc, I.cell, I.free, I.freeC, I.pin, I.hok, I.len⟩⟩
end XL
set_option Elab.async false
set_option linter.all false
set_option maxRecDepth 100000
set_option maxHeartbeats 4000000
/-! XSeg: a piece of a generator's code, up to its next item or its end; what is wanted of that is any predicate. -/
namespace XL
open PySem
open Sem (wp)

/-- the code t over fs runs to an item that is handed out, or to its end -/
def SegP (M : Model) (A : Around) (Φ : End → Shared → Prop) (c : Code) (t : Sem Fin) (fs : List Frame) (s : Shared) : Prop :=
  ∀ Γ p, Γ.code = c → Γ.Woken A → ∃ e s', Runs M Γ p t fs s e s' ∧ Φ e s'
section
variable {M : Model} {A : Around} {Φ : End → Shared → Prop} {c : Code} {fs : List Frame} {s : Shared}
theorem sg_imp {Ψ : End → Shared → Prop} {t : Sem Fin} (h : SegP M A Φ c t fs s) (k : ∀ e s', Φ e s' → Ψ e s') : SegP M A Ψ c t fs s := fun Γ p hc hΓ => by
  obtain ⟨e, s', r, q⟩ := h Γ p hc hΓ
  exact ⟨e, s', r, k e s' q⟩
theorem sg_wrap {α : Type} {m : Sem α} {K : α → Sem Fin} {H : Value → Sem Fin} {gd lv}
    (h : wpAny M (A.over c fs) m (fun a s' => SegP M A Φ c (K a) fs s') (fun x s' => SegP M A Φ c (H x) fs s') s) : SegP M A Φ c (m.wrap K H gd lv) fs s := by
  rintro Γ p rfl hΓ
  exact runs_wrap_of_wp K H gd lv m (h (Γ.over fs) p (hΓ.over fs)) (fun a p' s' h' => h' Γ p' rfl hΓ) (fun x p' s' h' => h' Γ p' rfl hΓ)
theorem sg_bind {α : Type} {m : Sem α} {K : α → Sem Fin}
    (h : wpAny M (A.over c fs) m (fun a s' => SegP M A Φ c (K a) fs s') (fun x s' => SegP M A Φ c (.raise x) fs s') s) : SegP M A Φ c (m >>= K) fs s := by
  rw [Sem.bind_eq_wrap']
  exact sg_wrap h
theorem sg_bind_wrap {α β : Type} {m : Sem α} {f : α → Sem β} {K : β → Sem Fin} {H : Value → Sem Fin} {gd : Bool → Bool} {lv : List Value → List Value}
    (h : wpAny M (A.over c fs) m (fun a s' => SegP M A Φ c ((f a).wrap K H gd lv) fs s') (fun x s' => SegP M A Φ c (H x) fs s') s) : SegP M A Φ c ((m >>= f).wrap K H gd lv) fs s := by
  rw [Sem.bind_eq_wrap', Sem.wrap_wrap]
  exact sg_wrap h
theorem sg_at {p' : Pos} {k : Unit → Sem Fin} (h : SegP M A Φ c (k ()) fs s) : SegP M A Φ c (.at p' k) fs s :=
  sg_wrap (m := standAt p') (K := k) (H := .raise) (gd := id) (lv := id) (wpAny_standAt h)
theorem sg_point {l : List Value} {k : Unit → Sem Fin} (h : SegP M A Φ c (k ()) fs s) : SegP M A Φ c (.point l k) fs s :=
  sg_wrap (m := point) (K := k) (H := .raise) (gd := id) (lv := fun _ => l) (wpAny_point h)
theorem sg_call {c' : Code} {h g l} {k : Result → Sem Fin} (hc : ∀ p, SegP M A Φ c' (M.den c') (.ret k h g l c p [] :: fs) s) : SegP M A Φ c (.call c' h g l k) fs s := by
  rintro Γ p rfl hΓ
  obtain ⟨e, s', hr, he⟩ := hc p (Γ.goto c') p rfl (hΓ.goto c')
  exact ⟨e, s', runs_call_seg hr, he⟩
theorem sg_leaf {k h g l c₁ p₁ kp} (r : Result) (hk : SegP M A Φ c₁ (k r) fs s) : SegP M A Φ c (leafOf r) (.ret k h g l c₁ p₁ kp :: fs) s := by
  rintro Γ p rfl hΓ
  obtain ⟨e, s', hr, he⟩ := hk (Γ.goto c₁) p₁ rfl (hΓ.goto c₁)
  exact ⟨e, s', Runs.pop r hr, he⟩
theorem sg_again {c' : Code} (hq : c'.quiet = true) (hc : SegP M A Φ c' (M.den c') fs s) : SegP M A Φ c (.pure (.again c')) fs s := by
  rintro Γ p rfl hΓ
  obtain ⟨e, s', hr, he⟩ := hc (Γ.goto c') p rfl (hΓ.goto c')
  exact ⟨e, s', Runs.head (c₁ := c') (fun _ _ x => .again hq x) hr, he⟩
theorem sg_end (r : Result) (h : Φ (.ret r) s) : SegP M A Φ c (leafOf r) [] s := by
  rintro Γ p rfl _
  exact ⟨.ret r, s, Runs.leaf r, h⟩
theorem sg_yield {v g l} {k : Resume → Sem Fin} (hfs : splitAtGen fs = none) (h : ∀ p, Φ (.susp v g l k c p fs) s) : SegP M A Φ c (.yield v g l k) fs s := by
  rintro Γ p rfl _
  exact ⟨_, s, Runs.yield' fs hfs, h p⟩
end
section
variable {M : Model} {A : Around} {Φ : End → Shared → Prop} {c : Code} {fs : List Frame} {s : Shared} {env : Env} {K : Flow → Sem Fin} {H : Value → Sem Fin} {gd : Bool → Bool} {lv : List Value → List Value}
theorem sg_execs_nil (h : SegP M A Φ c (K .next) fs s) : SegP M A Φ c ((execs [] env).wrap K H gd lv) fs s := h
theorem sg_execs_cons {st : Stmt} {rest : List Stmt} (h : SegP M A Φ c ((exec st env).wrap (fun f => match f with | .next => (execs rest env).wrap K H gd lv | f => K f) H gd lv) fs s) :
    SegP M A Φ c ((execs (st :: rest) env).wrap K H gd lv) fs s := by
  rw [execs_cons_wrap]
  exact h
/-- yield e -/
theorem sg_Yield {e : Expr} {yp pos : Pos} (hfs : splitAtGen fs = none)
    (h : wpAny M (A.over c fs) (eval e env) (fun v s' => ∀ (k : Resume → Sem Fin) (l : List Value) (p : Pos),
        (∀ (B : Around) (Ψ : End → Shared → Prop) (x : Value) (s'' : Shared), (∀ a, x ≠ .ref a) → SegP M B Ψ c (K .next) fs s'' → SegP M B Ψ c (k (.send x)) fs s'') → Φ (.susp v (gd false) l k c p fs) s')
      (fun x s' => SegP M A Φ c (H x) fs s') s) (hco : env.scope.isCoroutine = false := by rfl) (hi : interactive env = false := by rfl) :
    SegP M A Φ c ((exec (.Expr (.Yield (some e) yp) pos) env).wrap K H gd lv) fs s := by
  rw [exec_Expr env _ pos hi rfl]
  show SegP M A Φ c (.at pos fun _ => ((eval e env >>= fun v => (standAt yp >>= fun _ => yieldOut env v)) >>= fun x => dropValue (.Yield (some e) yp) pos x).wrap K H gd lv) fs s
  have hy : ∀ v, yieldOut env v = yieldValue v := fun v => by simp only [yieldOut, hco, Bool.false_eq_true, if_false]
  simp only [hy]
  refine sg_at ?_
  rw [Sem.bind_eq_wrap', Sem.bind_eq_wrap', Sem.wrap_wrap, Sem.wrap_wrap]
  refine sg_wrap (wpAny_mono h (fun v s' h' => ?_) fun _ _ x => x)
  refine sg_at (sg_yield hfs fun p => ?_)
  refine h' _ _ p fun B Ψ x s'' hn hx => ?_
  cases x <;> first | exact hx | exact (hn _ rfl).elim
theorem sg_While {test : Expr} {body orelse : List Stmt} {pos : Pos}
    (h : ∀ p, SegP M A Φ (.whileLoop test body orelse env) (M.den (.whileLoop test body orelse env))
      (.ret (fun r => ((match r with | .ok f => (.pure f : Sem Flow) | .error e => .raise e).onRaise fun (x : Value) => do
        if (← field x 1) == Value.none then unsupported "frame.own-activation:exception-without-traceback"
        setFlight x env.frame).wrap K H gd lv) none (gd false) (lv []) c p [] :: fs) s) :
    SegP M A Φ c ((exec (.While test body orelse pos) env).wrap K H gd lv) fs s := sg_at (sg_call h)
theorem sg_forCall {c' : Code} 
    (h : ∀ p, SegP M A Φ c' (M.den c') 
      (.ret (fun r => ((match r with | .ok f => (.pure f : Sem Flow) | .error e => .raise e).onRaise fun (x : Value) => do
        if (← field x 1) == Value.none then unsupported "frame.own-activation:exception-without-traceback"
        setFlight x env.frame).wrap K H gd lv) none (gd false) (lv []) c p [] :: fs) s) :
    SegP M A Φ c ((runOwn c' env).wrap K H gd lv) fs s := sg_call h
end
section
variable {prog : Program} {w : World} {A : Around} {Φ : End → Shared → Prop} {fs : List Frame} {s : Shared} {env : Env}
/-- what a loop does with an exception -/
def lpEx (env : Env) (e : Value) : Sem Fin := (do noteFrame e env; theTreesLotGoes e : Sem Unit).wrap (fun _ => .raise e) .raise id id
theorem sg_whileLoop {test : Expr} {body orelse : List Stmt}
    (h : wpAny (model prog w) (A.over (.whileLoop test body orelse env) fs) (isTrue test env (eval test env)) (fun b s' =>
        if b = true then
          SegP (model prog w) A Φ (.whileLoop test body orelse env) ((execs body env).wrap (fun f => match f with
            | .next | .cont => .pure (.again (.whileLoop test body orelse env))
            | .brk => .pure (.done .next)
            | .ret v => .pure (.done (.ret v))) (lpEx env) id id) fs s'
        else SegP (model prog w) A Φ (.whileLoop test body orelse env) ((execs orelse env).wrap (fun f => .pure (.done f)) (lpEx env) id id) fs s')
      (fun x s' => SegP (model prog w) A Φ (.whileLoop test body orelse env) (lpEx env x) fs s') s) :
    SegP (model prog w) A Φ (.whileLoop test body orelse env) ((model prog w).den (.whileLoop test body orelse env)) fs s := by
  show SegP _ A Φ _ ((whileTurn test body orelse env).onRaise (fun x => do noteFrame x env; theTreesLotGoes x)) fs s
  unfold whileTurn
  rw [Sem.onRaise_eq_wrap, Sem.bind_eq_wrap', Sem.wrap_wrap]
  refine sg_wrap (wpAny_mono h (fun b s' hb => ?_) fun x s' hx => ?_)
  · cases b with
    | true =>
      rw [if_pos rfl] at hb
      show SegP _ A Φ _ (Sem.wrap _ _ _ _ (if true = true then _ else _)) fs s'
      rw [if_pos rfl, Sem.bind_eq_wrap', Sem.wrap_wrap]
      rw [Sem.wrap_congr (execs body env) _ _ (K' := fun f => match f with
            | .next | .cont => .pure (.again (.whileLoop test body orelse env))
            | .brk => .pure (.done .next)
            | .ret v => .pure (.done (.ret v))) (H' := lpEx env)
        (fun f => by cases f <;> rfl)
        (fun e => by first | exact Sem.bind_eq_wrap _ _ | (show (do noteFrame e env; theTreesLotGoes e : Sem Unit).bind (fun _ => .raise e) = _; rw [Sem.bind_eq_wrap]; rfl))]
      exact hb
    | false =>
      rw [if_neg Bool.false_ne_true] at hb
      show SegP _ A Φ _ (Sem.wrap _ _ _ _ (if false = true then _ else _)) fs s'
      rw [if_neg Bool.false_ne_true, Sem.bind_eq_wrap', Sem.wrap_wrap]
      rw [Sem.wrap_congr (execs orelse env) _ _ (K' := fun f => (.pure (.done f) : Sem Fin)) (H' := lpEx env)
        (fun f => by rfl)
        (fun e => by first | exact Sem.bind_eq_wrap _ _ | (show (do noteFrame e env; theTreesLotGoes e : Sem Unit).bind (fun _ => .raise e) = _; rw [Sem.bind_eq_wrap]; rfl))]
      exact hb
  · first
      | (unfold lpEx at hx; rw [← Sem.bind_eq_wrap] at hx; exact hx)
      | (show SegP _ A Φ _ ((do noteFrame x env; theTreesLotGoes x : Sem Unit).bind fun _ => .raise x) fs s'; rw [Sem.bind_eq_wrap]; exact hx)
theorem sg_forLoop {target : Expr} {it : Value} {body orelse : List Stmt} 
    (h : wpAny (model prog w) (A.over (.forLoop target it body orelse env) fs) (pyNext it) (fun r s' => match r with
        | none => SegP (model prog w) A Φ (.forLoop target it body orelse env) (.pure (.again (.block orelse env))) fs s'
        | some v => wpAny (model prog w) (A.over (.forLoop target it body orelse env) fs) (letOwnedTupleGo target it v) (fun _ s1 =>
            wpAny (model prog w) (A.over (.forLoop target it body orelse env) fs) (assign target env v) (fun _ s2 =>
              SegP (model prog w) A Φ (.forLoop target it body orelse env) ((execs body env).wrap (fun f => match f with
                | .next | .cont => .pure (.again (.forLoop target it body orelse env))
                | .brk => .pure (.done .next)
                | .ret v => .pure (.done (.ret v))) (lpEx env) id id) fs s2)
              (fun x s' => SegP (model prog w) A Φ (.forLoop target it body orelse env) (lpEx env x) fs s') s1)
            (fun x s' => SegP (model prog w) A Φ (.forLoop target it body orelse env) (lpEx env x) fs s') s')
      (fun x s' => SegP (model prog w) A Φ (.forLoop target it body orelse env) (lpEx env x) fs s') s) :
    SegP (model prog w) A Φ (.forLoop target it body orelse env) ((model prog w).den (.forLoop target it body orelse env)) fs s := by
  show SegP _ A Φ _ ((forTurn target it body orelse env).onRaise (fun x => do noteFrame x env; theTreesLotGoes x)) fs s
  have hex : ∀ x s', SegP (model prog w) A Φ (.forLoop target it body orelse env) (lpEx env x) fs s' → SegP (model prog w) A Φ (.forLoop target it body orelse env) ((do noteFrame x env; theTreesLotGoes x : Sem Unit).bind fun _ => .raise x) fs s' := fun x s' hx => by
    rw [Sem.bind_eq_wrap]
    exact hx
  unfold forTurn
  rw [Sem.onRaise_eq_wrap]
  refine sg_bind_wrap (wpAny_standAt ?_)
  rw [Sem.bind_eq_wrap', Sem.wrap_wrap]
  refine sg_wrap (wpAny_onRaise (wpAny_mono h (fun r s' hr => ?_) fun x s' hx => wpAny_standAt (hex x s' hx)))
  cases r with
  | none => exact hr
  | some v =>
    refine sg_bind_wrap (wpAny_mono hr (fun _ s1 h1 => ?_) fun x s1 hx => hex x s1 hx)
    refine sg_bind_wrap (wpAny_mono h1 (fun _ s2 h2 => ?_) fun x s2 hx => hex x s2 hx)
    rw [Sem.bind_eq_wrap', Sem.wrap_wrap]
    rw [Sem.wrap_congr (execs body env) _ _ (K' := fun f => match f with
            | .next | .cont => .pure (.again (.forLoop target it body orelse env))
            | .brk => .pure (.done .next)
            | .ret v => .pure (.done (.ret v))) (H' := lpEx env)
        (fun f => by cases f <;> rfl)
        (fun e => by first | exact Sem.bind_eq_wrap _ _ | (show (do noteFrame e env; theTreesLotGoes e : Sem Unit).bind (fun _ => .raise e) = _; rw [Sem.bind_eq_wrap]; rfl))]
    exact h2
theorem sg_func {body : List Stmt}
    (h : SegP (model prog w) A Φ (.func body env) ((execs body env).wrap (fun f => .pure (.done (.ret (match f with | .ret v => v | _ => .none))))
      (fun e => (leaving env e).wrap (fun _ => .raise e) .raise id id) id id) fs s) :
    SegP (model prog w) A Φ (.func body env) ((model prog w).den (.func body env)) fs s := by
  show SegP _ A Φ _ (.point [] fun _ => ((execs body env).onRaise (leaving env)) >>= _) fs s
  refine sg_point ?_
  rw [Sem.onRaise_eq_wrap, Sem.bind_eq_wrap', Sem.wrap_wrap]
  rw [Sem.wrap_congr (execs body env) _ _ (K' := fun f => .pure (.done (.ret (match f with | .ret v => v | _ => .none))))
    (H' := fun e => (leaving env e).wrap (fun _ => .raise e) .raise id id) (fun f => by cases f <;> rfl)
    (fun e => by rw [Sem.bind_eq_wrap, Sem.wrap_wrap]; rfl)]
  exact h
end
end XL
set_option Elab.async false
set_option linter.all false
set_option maxRecDepth 100000
set_option maxHeartbeats 4000000
/-! XRest: a generator at rest, woken from any state that keeps its own records; its body's statements. -/
namespace XL
open PySem PySem.Spec PyProof.Rows L2 GenW

/-! ### the heap's first objects -/
def cutH (h : Heap) (n : Nat) : Heap := ⟨h.objs.extract 0 n, h.life⟩
def cutS (s : Shared) (n : Nat) : Shared := { s with heap := cutH s.heap n }
section
variable {h : Heap} {n b : Nat} {o : Obj} {base : Heap}
theorem cutH_get : (cutH h n).get? b = if b < n then h.get? b else none := by
  unfold cutH Heap.get?
  rw [Array.getElem?_extract]
  by_cases hb : b < n
  · by_cases hs : b < h.objs.size
    · rw [if_pos (by omega), if_pos hb]
      simp
    · rw [if_neg (by omega), if_pos hb]
      rw [Array.getElem?_eq_none (by omega)]
  · rw [if_neg (by omega), if_neg hb]
theorem cutH_size (hn : n ≤ h.objs.size) : (cutH h n).objs.size = n := by
  unfold cutH
  simp
  omega
theorem cut_of (e : (cutH h n).get? b = some o) : b < n ∧ h.get? b = some o := by
  rw [cutH_get] at e
  split at e
  · exact ⟨‹_›, e⟩
  · cases e
theorem cut_to (hb : b < n) (e : h.get? b = some o) : (cutH h n).get? b = some o := by
  rw [cutH_get, if_pos hb]
  exact e
theorem cut_frames : ∀ {l : List Env}, (∀ b ∈ frs l, b < n) → h.FunFrames base l → (cutH h n).FunFrames base l
  | [], _, _ => trivial
  | env :: r, hl, x => by
    obtain ⟨hk, ⟨L, o, hf, hn, ho, hd⟩, hr⟩ := x
    have hL : L ∈ frs (env :: r) := by unfold frs; rw [List.filterMap_cons, hf]; exact List.mem_cons_self
    refine ⟨hk, ⟨L, o, hf, hn, cut_to (hl L hL) ho, hd⟩, cut_frames (fun b hb => hl b ?_) hr⟩
    unfold frs
    rw [List.filterMap_cons]
    cases env.frame with
    | none => exact hb
    | some L' => exact List.mem_cons_of_mem _ hb
end

/-! ### a generator -/
/-- what is wanted of a generator that is woken: of the item that it hands out, of its end, of an exception -/
structure YD (γ : Type) where
  qy : V → γ → Hp → Prop
  qd : Hp → Prop
  ex : XK
/-- an exception has left a generator's frame (from the base s, H; the pins ip stand) -/
def CXY (P : Program) (w : World) (outer : List Env) (H : Hp) (s : Shared) (ip : List (Addr × Obj)) (E : XK) (u : Value) (s' : Shared) : Prop :=
  ∃ (a : Addr) (B : Heap) (H' : Hp) (cls : Value) (d : Option Addr), u = .ref a ∧ HandSPX.FlyingZ B outer a (Zc cls d) s'.heap ∧ HOk P w H' B ∧ UB (frs outer) H H' s.heap B s'.heap ∧ H' a = none ∧ s'.os = s.os ∧ AllBare s'.gens ∧ E cls d H' ∧
    ∀ p ∈ ip, B.get? p.1 = some p.2 ∧ H' p.1 = none
/-- a generator def's body, running or at rest: what does not change -/
structure YG (γ : Type) where
  P : Program
  w : World
  K : PySem.W.Frag
  mg : Str → Option Value
  base : Heap
  N : List Str
  qual : Str
  scope : Scope
  f : Addr
  cd : Value
  L : Addr
  A : Around
  outer : List Env
  go : γ → Hp → YD γ → Prop
abbrev YG.env {γ : Type} (Y : YG γ) : Env := envOfC Y.qual Y.scope Y.L Y.f Y.cd
/-- the context of the body, from the base s, H; ip: what the consumer wants kept -/
def YG.X {γ : Type} (Y : YG γ) (s : Shared) (H : Hp) (E : XK) (ip : List (Addr × Obj)) : Cx where
  prog := Y.P
  w := Y.w
  K := Y.K
  mg := Y.mg
  base := Y.base
  A := Y.A.deeper (envOfC Y.qual Y.scope Y.L Y.f Y.cd)
  N := Y.N
  s_0 := s
  H_0 := H
  env := envOfC Y.qual Y.scope Y.L Y.f Y.cd
  outer := Y.outer
  stack := envOfC Y.qual Y.scope Y.L Y.f Y.cd :: Y.outer
  ex := []
  calm := true
  fn := fun _ => true
  pn := ip
  xe := fun e s' => wpAny (model Y.P Y.w) (Y.A.deeper (envOfC Y.qual Y.scope Y.L Y.f Y.cd)) (leaving (envOfC Y.qual Y.scope Y.L Y.f Y.cd) e) (fun _ s'' => CXY Y.P Y.w Y.outer H s ip E e s'') (fun _ _ => False) s'
/-- it holds no cells, its frame is younger than the module's objects and its callers' frames -/
structure YG.Ok {γ : Type} (Y : YG γ) : Prop where
  nc : ∀ x c, Y.env.cells.lookup x = some c → False
  bz : Y.base.objs.size ≤ Y.L
  fr : ∀ b ∈ frs Y.outer, b < Y.L

/-- it leaves the def; what is pinned stays -/
theorem XE.leaveY {X : Cx} {W : WX} {E : XK} {s' : Shared} (hs : X.stack = X.env :: X.outer) (hf : X.env.frame = some X.env.locals) (hex : X.ex = []) {E₁ : Value → Shared → Prop} (hW : ∀ cls d σ H, W cls d σ H → E cls d H) {u : Value} (x : XE X W u s') :
    wpAny (model X.prog X.w) X.A (leaving X.env u) (fun _ s'' => CXY X.prog X.w X.outer X.H_0 X.s_0 X.pn E u s'') E₁ s' := by
  obtain ⟨a, B, sI, pins, σ, H, cls, d, rfl, I, nb, up, sky, na, os, ag, w⟩ := x
  have hfr : X.A.frames = some (X.env :: X.outer) := by rw [I.ok.frames, hs]
  have nst : ∀ b o, X.s_0.heap.get? b = some o → b ∉ X.fs → b ∉ frs X.stack := fun b o e hb hm => by
    rcases List.mem_cons.mp (I.stkSub b hm) with z | z
    · have h1 := Heap.lt_size e
      have h2 := I.ok.above
      rw [z] at h1
      exact absurd (Nat.lt_of_lt_of_le h1 h2) (Nat.lt_irrefl _)
    · exact hb z
  have hex' : ∀ b, b ∉ X.ex := fun b hb => by rw [hex] at hb; cases hb
  have hokB := I.inGround nb
  have pinB : ∀ p ∈ X.pn, B.get? p.1 = some p.2 ∧ H p.1 = none := fun p hp => by
    obtain ⟨h1, h2, h3, h4, _⟩ := I.pin p (List.mem_append_left _ hp)
    refine ⟨nb p.1 p.2 h1 fun hm => ?_, h2⟩
    rcases List.mem_cons.mp (I.stkSub p.1 hm) with z | z
    · exact h3 z
    · exact h4 z
  have fin : ∀ h', HandSPX.FlyingZ B X.outer a (Zc cls d) h' → s'.heap.UpToSlots h' → CXY X.prog X.w X.outer X.H_0 X.s_0 X.pn E (.ref a) { s' with heap := h' } := fun h' fl up' => by
    refine ⟨a, B, H, cls, d, rfl, fl, hokB, ⟨fun b o e n hb => nb b o (I.base.keep b o e n hb (hex' b)) (nst b o e hb), fun b o e hb => ?_, fun b o e n => I.base.free b o e n (hex' b), fun b o e hb => ?_, I.base.tups, I.base.frzs, I.base.tbls⟩,
      na, os.trans I.os, ag, hW _ _ _ _ w, pinB⟩
    · obtain ⟨_, o₀, e₀, hnf⟩ := I.ok.funs.mem hb
      rw [e] at e₀; cases e₀
      obtain ⟨sl, e1⟩ := I.base.slot b o e (I.ok.frf b hb) hb (hex' b)
      obtain ⟨sl2, e2⟩ := up b _ e1 hnf
      obtain ⟨sl3, e3⟩ := up' b _ e2 hnf
      exact ⟨sl3, e3⟩
    · obtain ⟨o', e1⟩ := I.base.there b o e (hex' b)
      exact ⟨o', nb b o' e1 (nst b o e hb)⟩
  rw [hs] at sky
  rcases sky with ⟨hB, hn, hl, oe, vs, he, hz, hd, h1⟩ | fl | hd
  · exact HandSPX.leaving_firstZ Zc.steady hfr hl hf he hB hn hd h1 hz fin
  · exact HandSPX.leaves_onZ Zc.steady hfr hf fl fin
  · exact HandSPX.leaves_heldZ hf hd fin
section
variable {γ : Type} {Y : YG γ} {s : Shared} {H : Hp} {E : XK} {ip : List (Addr × Obj)}
theorem takes_y : Takes (Y.X s H E ip) (fun cls d _ H' => E cls d H') := fun u s' x =>
  XE.leaveY (W := fun cls d _ H' => E cls d H') (E := E) rfl rfl rfl (fun _ _ _ _ h => h) x
theorem owns_y : PassesOwn (model Y.P Y.w) (Y.X s H E ip).A (Y.X s H E ip).env (Y.X s H E ip).xe :=
  passes_of (X := Y.X s H E ip) (K := fun e s'' => CXY Y.P Y.w Y.outer H s ip E e s'') (E₁ := fun _ _ => False) rfl
end

/-! ### rest and waking -/
/-- a state from which a generator with these own records is woken; ip: what its consumer wants kept -/
structure Woke (P : Program) (w : World) (K : PySem.W.Frag) (mg : Str → Option Value) (base : Heap) (A : Around) (outer : List Env) (ow ip : List (Addr × Obj)) (s : Shared) (H : Hp) : Prop where
  e0 : Env0 P w K mg base A outer s H
  own : ∀ p ∈ ow, s.heap.get? p.1 = some p.2 ∧ H p.1 = none
  ip : ∀ p ∈ ip, s.heap.get? p.1 = some p.2 ∧ H p.1 = none ∧ p.1 ∉ frs outer ∧ (∀ v, p.2.data ≠ .cell v) ∧ ∀ q ∈ ow, p.1 ≠ q.1
/-- behind a run from the base s, H -/
def After (P : Program) (w : World) (outer : List Env) (s : Shared) (H : Hp) (ip : List (Addr × Obj)) (s' : Shared) (H' : Hp) : Prop :=
  s'.os = s.os ∧ AllBare s'.gens ∧ Un (frs outer) [] H H' s.heap s'.heap ∧ HOk P w H' s'.heap ∧ ∀ p ∈ ip, s'.heap.get? p.1 = some p.2 ∧ H' p.1 = none
/-- its own records -/
def OwnOk (L : Addr) (own ip : List (Addr × Obj)) (s : Shared) (H : Hp) : Prop :=
  ∀ p ∈ own, s.heap.get? p.1 = some p.2 ∧ H p.1 = none ∧ L ≤ p.1 ∧ (∀ v, p.2.data ≠ .cell v) ∧ ∀ q ∈ ip, q.1 ≠ p.1
/-- where a run of a generator ends -/
def YEnd {γ : Type} (Y : YG γ) (rest : γ → List (Addr × Obj) → Code → (Resume → Sem PySem.Fin) → List Frame → Prop) (s : Shared) (H : Hp) (ip : List (Addr × Obj)) (d : YD γ) (e : End) (s' : Shared) : Prop := match e with
  | .ret (.ok f) => (f = .ret .none ∨ f = .next) ∧ ∃ H', After Y.P Y.w Y.outer s H ip s' H' ∧ d.qd H'
  | .ret (.error x) => CXY Y.P Y.w Y.outer H s ip d.ex x s'
  | .susp v g l k c p fs => (End.susp v g l k c p fs).quiet = true ∧ ∃ x g' H' own, RelV x v ∧ After Y.P Y.w Y.outer s H ip s' H' ∧ OwnOk Y.L own ip s' H' ∧ (∃ o, (Y.L, o) ∈ own) ∧ d.qy x g' H' ∧ rest g' own c k fs
def YPhi {γ : Type} (Y : YG γ) : Nat → Shared → Hp → List (Addr × Obj) → YD γ → End → Shared → Prop
  | 0 => YEnd Y fun _ _ _ _ _ => True
  | n + 1 => YEnd Y fun g' own c k fs => ∀ (s : Shared) (H : Hp) (ip : List (Addr × Obj)) (d : YD γ), Woke Y.P Y.w Y.K Y.mg Y.base Y.A Y.outer own ip s H → Y.go g' H d → SegP (model Y.P Y.w) Y.A (YPhi Y n (cutS s Y.L) H ip d) c (k (.send .none)) fs s
/-- a generator at rest, for n wakings -/
def Rst {γ : Type} (Y : YG γ) : Nat → γ → GenState → List (Addr × Obj) → Prop
  | 0, _, _, _ => True
  | n + 1, g, .fresh c, own => ∀ (s : Shared) (H : Hp) (ip : List (Addr × Obj)) (d : YD γ), Woke Y.P Y.w Y.K Y.mg Y.base Y.A Y.outer own ip s H → Y.go g H d → SegP (model Y.P Y.w) Y.A (YPhi Y n (cutS s Y.L) H ip d) c ((model Y.P Y.w).den c) [] s
  | n + 1, g, .suspended k _ c _ fs _, own => ∀ (s : Shared) (H : Hp) (ip : List (Addr × Obj)) (d : YD γ), Woke Y.P Y.w Y.K Y.mg Y.base Y.A Y.outer own ip s H → Y.go g H d → SegP (model Y.P Y.w) Y.A (YPhi Y n (cutS s Y.L) H ip d) c (k (.send .none)) fs s
  | _ + 1, _, _, _ => False

/-! ### a generator's statements -/
/-- what is wanted behind a statement -/
structure YE (γ : Type) where
  nx : YD γ → L2.St → Hp → Prop
  rt : YD γ → VK
  bk : YD γ → L2.St → Hp → Prop := fun _ _ _ => False
  ct : YD γ → L2.St → Hp → Prop := fun _ _ _ => False
abbrev TY (γ : Type) := YE γ → YD γ → L2.St → Hp → Prop
def YE.at {γ : Type} (D : YE γ) (d : YD γ) : Ends := { nx := D.nx d, rt := D.rt d, bk := D.bk d, ct := D.ct d }
/-- the invariant of the body; it: its own iterators -/
structure YI {γ : Type} (Y : YG γ) (s_0 : Shared) (H_0 : Hp) (ip : List (Addr × Obj)) (E : XK) (it : List (Addr × Obj)) (σ : L2.St) (H : Hp) (s : Shared) : Prop where
  inv : L2.Inv (Y.X s_0 H_0 E ip) it σ H s
  sz : s_0.heap.objs.size = Y.L
  it : ∀ p ∈ it, Y.L ≤ p.1 ∧ ∀ q ∈ ip, q.1 ≠ p.1
def YSP {γ : Type} (Y : YG γ) (s_0 : Shared) (H_0 : Hp) (ip : List (Addr × Obj)) (it : List (Addr × Obj)) (D : YE γ) (d : YD γ) (f : Flow) (s : Shared) : Prop := match f with
  | .next => ∃ σ H, YI Y s_0 H_0 ip d.ex it σ H s ∧ D.nx d σ H
  | .brk => ∃ σ H, YI Y s_0 H_0 ip d.ex it σ H s ∧ D.bk d σ H
  | .cont => ∃ σ H, YI Y s_0 H_0 ip d.ex it σ H s ∧ D.ct d σ H
  | .ret u => ∃ v σ H, YI Y s_0 H_0 ip d.ex it σ H s ∧ RelV v u ∧ D.rt d v H
structure YC {γ : Type} (Y : YG γ) (c : Code) (fs : List Frame) (gd : Bool → Bool) : Prop where
  ok : Y.Ok
  over : Y.A.over c fs = Y.A.deeper Y.env
  split : splitAtGen fs = none
  guard : fs.any Frame.guarded = false
  gd : gd false = false
structure YK {γ : Type} (Y : YG γ) (it : List (Addr × Obj)) (c : Code) (fs : List Frame) (K : Flow → Sem PySem.Fin) (J : Value → Sem PySem.Fin) (D : YE γ) : Prop where
  ok : ∀ (n : Nat) (s_0 : Shared) (H_0 : Hp) (ip : List (Addr × Obj)) (d : YD γ) (f : Flow) (s : Shared), YSP Y s_0 H_0 ip it D d f s → SegP (model Y.P Y.w) Y.A (YPhi Y n s_0 H_0 ip d) c (K f) fs s
  exc : ∀ (n : Nat) (s_0 : Shared) (H_0 : Hp) (ip : List (Addr × Obj)) (d : YD γ) (e : Value) (s : Shared), (Y.X s_0 H_0 d.ex ip).xe e s → SegP (model Y.P Y.w) Y.A (YPhi Y n s_0 H_0 ip d) c (J e) fs s
structure YS {γ : Type} (Y : YG γ) (st : Stmt) (t : TY γ) : Prop where
  run : ∀ (it : List (Addr × Obj)) (n : Nat) (s_0 : Shared) (H_0 : Hp) (ip : List (Addr × Obj)) (c : Code) (fs : List Frame) (K : Flow → Sem PySem.Fin) (J : Value → Sem PySem.Fin) (gd : Bool → Bool) (lv : List Value → List Value) (d : YD γ) (D : YE γ) (s : Shared) (σ : L2.St) (H : Hp),
    YC Y c fs gd → YK Y it c fs K J D → YI Y s_0 H_0 ip d.ex it σ H s → t D d σ H → SegP (model Y.P Y.w) Y.A (YPhi Y n s_0 H_0 ip d) c ((exec st Y.env).wrap K J gd lv) fs s
structure YSs {γ : Type} (Y : YG γ) (st : List Stmt) (t : TY γ) : Prop where
  run : ∀ (it : List (Addr × Obj)) (n : Nat) (s_0 : Shared) (H_0 : Hp) (ip : List (Addr × Obj)) (c : Code) (fs : List Frame) (K : Flow → Sem PySem.Fin) (J : Value → Sem PySem.Fin) (gd : Bool → Bool) (lv : List Value → List Value) (d : YD γ) (D : YE γ) (s : Shared) (σ : L2.St) (H : Hp),
    YC Y c fs gd → YK Y it c fs K J D → YI Y s_0 H_0 ip d.ex it σ H s → t D d σ H → SegP (model Y.P Y.w) Y.A (YPhi Y n s_0 H_0 ip d) c ((execs st Y.env).wrap K J gd lv) fs s

section
variable {γ : Type} {Y : YG γ} {st : Stmt} {rest : List Stmt}
theorem yi_ok {s_0 : Shared} {H_0 : Hp} {ip it : List (Addr × Obj)} {E : XK} {σ : L2.St} {H : Hp} {s : Shared} (h : YI Y s_0 H_0 ip E it σ H s) : (Y.X s_0 H_0 E ip).Ok := h.inv.ok
/-- woken: the invariant from the state at hand -/
theorem YI.woke (ok : Y.Ok) {s_0 s1 s2 : Shared} {H_0 H1 H2 : Hp} {ip ip2 it : List (Addr × Obj)} {E E2 : XK} {σ : L2.St} {oL : Obj} (J : YI Y s_0 H_0 ip E it σ H1 s1) (hoL : s1.heap.get? Y.L = some oL)
    (k : Woke Y.P Y.w Y.K Y.mg Y.base Y.A Y.outer ((Y.L, oL) :: it) ip2 s2 H2) : YI Y (cutS s2 Y.L) H2 ip2 E2 it σ H2 s2 := by
  have eL := k.own (Y.L, oL) List.mem_cons_self
  have lt : Y.L < s2.heap.objs.size := Heap.lt_size eL.1
  have sz : (cutS s2 Y.L).heap.objs.size = Y.L := cutH_size (Nat.le_of_lt lt)
  have O := J.inv.ok
  refine ⟨⟨⟨O.mod, O.kind, O.glob, O.blt, Nat.le_of_eq sz, O.inj, O.has, fun x c _ h => (ok.nc x c h).elim, O.hd, Around.frames_deeper k.e0.frames, .inr ⟨rfl, rfl⟩, fun b hb => absurd (show b ∈ ([] : List Addr) from hb) (by simp), fun b o e => ⟨cut_to (Nat.lt_of_lt_of_le (Heap.lt_size e) ok.bz) (k.e0.bs b o e).1, (k.e0.bs b o e).2⟩,
      by show Y.base.objs.size ≤ (cutS s2 Y.L).heap.objs.size; rw [sz]; exact ok.bz, fun b o _ hb => absurd (show b ∈ ([] : List Addr) from hb) (by simp), fun b hb => absurd (show b ∈ ([] : List Addr) from hb) (by simp), cut_frames ok.fr k.e0.funs, k.e0.frf⟩,
    rfl, k.e0.bare, Un.kept fun b u e => (cut_of e).2, ?_, fun x c h => (ok.nc x c h).elim, eL.2, fun x c h => (ok.nc x c h).elim, fun p hp => ?_, k.e0.hok, J.inv.len⟩, sz, fun p hp => ⟨(J.it p hp).1, fun q hq => (k.ip q hq).2.2.2.2 p (List.mem_cons_of_mem _ hp)⟩⟩
  · obtain ⟨m, hn, hl⟩ := J.inv.loc
    refine ⟨m, hn.at' fun o e => ?_, fun i x v h1 h2 h3 => ?_⟩
    · have e' : s1.heap.get? Y.L = some o := e
      rw [hoL] at e'
      cases e'
      exact eL.1
    · obtain ⟨u, r, l⟩ := hl i x v h1 h2 h3
      refine ⟨u, r, ?_⟩
      rcases l with l | ⟨_, c, h, _⟩
      · exact .inl l
      · exact (ok.nc x c h).elim
  · rcases List.mem_append.mp hp with hp | hp
    · obtain ⟨h1, h2, h3, h4, h5⟩ := k.ip p hp
      exact ⟨h1, h2, h5 _ List.mem_cons_self, h3, h4⟩
    · obtain ⟨_, _, h3, h4, h5⟩ := J.inv.pin p (List.mem_append_right _ hp)
      obtain ⟨e1, e2⟩ := k.own p (List.mem_cons_of_mem _ hp)
      exact ⟨e1, e2, h3, h4, h5⟩
/-- a statement that hands out nothing -/
def tYP (t : XK → TS) : TY γ := fun D d σ H => t d.ex (D.at d) σ H
theorem sp_ysp {s_0 : Shared} {H_0 : Hp} {ip it : List (Addr × Obj)} {s : Shared} {D : YE γ} {d : YD γ} {f : Flow} (sz : s_0.heap.objs.size = Y.L) (hit : ∀ p ∈ it, Y.L ≤ p.1 ∧ ∀ q ∈ ip, q.1 ≠ p.1) (h : SP (Y.X s_0 H_0 d.ex ip) it (D.at d) f s) : YSP Y s_0 H_0 ip it D d f s := by
  cases f with
  | next => obtain ⟨σ, H, I, q⟩ := h; exact ⟨σ, H, ⟨I, sz, hit⟩, q⟩
  | brk => obtain ⟨σ, H, I, q⟩ := h; exact ⟨σ, H, ⟨I, sz, hit⟩, q⟩
  | cont => obtain ⟨σ, H, I, q⟩ := h; exact ⟨σ, H, ⟨I, sz, hit⟩, q⟩
  | ret u => obtain ⟨v, σ, H, I, r, q⟩ := h; exact ⟨v, σ, H, ⟨I, sz, hit⟩, r, q⟩
theorem ys_ps {t : XK → TS} (h : ∀ s_0 H_0 E ip, PS (Y.X s_0 H_0 E ip) st (t E)) : YS Y st (tYP t) := by
  refine ⟨fun it n s_0 H_0 ip c fs K J gd lv d D s σ H g k I q => ?_⟩
  refine sg_wrap ?_
  rw [g.over]
  exact wpAny_mono ((h s_0 H_0 d.ex ip).run _ s σ H (D.at d) I.inv q) (fun f s' hs => k.ok n s_0 H_0 ip d f s' (sp_ysp I.sz I.it hs)) fun x s' hx => k.exc n s_0 H_0 ip d x s' hx
theorem yss_pss {t : XK → TS} (h : ∀ s_0 H_0 E ip, PSs (Y.X s_0 H_0 E ip) rest (t E)) : YSs Y rest (tYP t) := by
  refine ⟨fun it n s_0 H_0 ip c fs K J gd lv d D s σ H g k I q => ?_⟩
  refine sg_wrap ?_
  rw [g.over]
  exact wpAny_mono ((h s_0 H_0 d.ex ip).run _ s σ H (D.at d) I.inv q) (fun f s' hs => k.ok n s_0 H_0 ip d f s' (sp_ysp I.sz I.it hs)) fun x s' hx => k.exc n s_0 H_0 ip d x s' hx
def tY0 : TY γ := fun D d σ H => D.nx d σ H
theorem yss_nil : YSs Y [] (tY0 : TY γ) := ⟨fun it n s_0 H_0 ip c fs K J gd lv d D s σ H g k I q => sg_execs_nil (k.ok n s_0 H_0 ip d .next s ⟨σ, H, I, q⟩)⟩
def tYThen (t u : TY γ) : TY γ := fun D d σ H => t { D with nx := fun d' σ' H' => u D d' σ' H' } d σ H
theorem yss_cons {t u : TY γ} (a : YS Y st t) (b : YSs Y rest u) : YSs Y (st :: rest) (tYThen t u) := by
  refine ⟨fun it n s_0 H_0 ip c fs K J gd lv d D s σ H g k I q => ?_⟩
  refine sg_execs_cons ?_
  refine a.run it n s_0 H_0 ip c fs _ J gd lv d { D with nx := fun d' σ' H' => u D d' σ' H' } s σ H g ⟨fun n' s_0' H_0' ip' d' f s' hs => ?_, k.exc⟩ I q
  cases f with
  | next =>
    obtain ⟨σ', H', I', q'⟩ := hs
    exact b.run it n' s_0' H_0' ip' c fs K J gd lv d' D s' σ' H' g k I' q'
  | brk => exact k.ok n' s_0' H_0' ip' d' .brk s' hs
  | cont => exact k.ok n' s_0' H_0' ip' d' .cont s' hs
  | ret u => exact k.ok n' s_0' H_0' ip' d' (.ret u) s' hs

/-! ### yield -/
/-- go: the promise; behind the waking the promise of the new state is at hand -/
def tYY (go : γ → Hp → YD γ → Prop) (te : XK → TE) : TY γ := fun D d σ H => te d.ex σ H fun x H1 => ∃ g', d.qy x g' H1 ∧ ∀ H' d', go g' H' d' → D.nx d' σ H'
theorem YI.after {s_0 : Shared} {H_0 : Hp} {ip it : List (Addr × Obj)} {E : XK} {σ : L2.St} {H : Hp} {s : Shared} (I : YI Y s_0 H_0 ip E it σ H s) : After Y.P Y.w Y.outer s_0 H_0 ip s H :=
  ⟨I.inv.os, I.inv.bare, I.inv.base, I.inv.hok, fun p hp => let q := I.inv.pin p (List.mem_append_left _ hp); ⟨q.1, q.2.1⟩⟩
theorem YI.own {s_0 : Shared} {H_0 : Hp} {ip it : List (Addr × Obj)} {E : XK} {σ : L2.St} {H : Hp} {s : Shared} (I : YI Y s_0 H_0 ip E it σ H s) : ∃ oL, s.heap.get? Y.L = some oL ∧ OwnOk Y.L ((Y.L, oL) :: it) ip s H := by
  obtain ⟨m, ⟨oL, es, ep, ho, hd, _⟩, _⟩ := I.inv.loc
  refine ⟨oL, ho, fun p hp => ?_⟩
  rcases List.mem_cons.mp hp with rfl | hp
  · exact ⟨ho, I.inv.free, Nat.le_refl _, (fun v e => by rw [hd] at e; cases e), fun q hq => (I.inv.pin q (List.mem_append_left _ hq)).2.2.1⟩
  · obtain ⟨h1, h2, _, _, h5⟩ := I.inv.pin p (List.mem_append_right _ hp)
    exact ⟨h1, h2, (I.it p hp).1, h5, (I.it p hp).2⟩
theorem ys_yield {e : Expr} {yp pos : Pos} {te : XK → TE} (he : ∀ s_0 H_0 E ip, PE (Y.X s_0 H_0 E ip) e (te E)) (hco : Y.env.scope.isCoroutine = false := by rfl) (hi : interactive Y.env = false := by rfl) :
    YS Y (.Expr (.Yield (some e) yp) pos) (tYY Y.go te) := by
  refine ⟨fun it n s_0 H_0 ip c fs K J gd lv d D s σ H g k I q => ?_⟩
  refine sg_Yield g.split ?_ hco hi
  rw [g.over]
  refine wpAny_mono ((he s_0 H_0 d.ex ip).run _ s σ H _ I.inv q) (fun v s' hv => ?_) fun x s' hx => k.exc n s_0 H_0 ip d x s' hx
  obtain ⟨x, H1, I1, rv, g', hq, hk⟩ := hv
  have I2 : YI Y s_0 H_0 ip d.ex it σ H1 s' := ⟨I1, I.sz, I.it⟩
  obtain ⟨oL, hoL, own⟩ := I2.own
  intro kk l p hkk
  have quiet : (End.susp v (gd false) l kk c p fs).quiet = true := by
    show (!(gd false || fs.any Frame.guarded)) = true
    rw [g.gd, g.guard]
    rfl
  cases n with
  | zero => exact ⟨quiet, x, g', H1, _, rv, I2.after, own, ⟨oL, List.mem_cons_self⟩, hq, trivial⟩
  | succ m =>
    refine ⟨quiet, x, g', H1, _, rv, I2.after, own, ⟨oL, List.mem_cons_self⟩, hq, fun s2 H2 ip2 d2 wk hg => ?_⟩
    refine hkk Y.A _ .none s2 (fun a e => nomatch e) ?_
    exact k.ok m (cutS s2 Y.L) H2 ip2 d2 .next s2 ⟨σ, H2, I2.woke g.ok hoL wk, hk H2 d2 hg⟩

/-! ### loops with a yield within -/
theorem yc_loop {c c' : Code} {fs : List Frame} {gd : Bool → Bool} {k : Result → Sem PySem.Fin} {l kp : List Value} {p : Pos} (g : YC Y c fs gd) (hw : c'.weight = 0) (hu : c'.cUnits = 0) :
    YC Y c' (.ret k none (gd false) l c p kp :: fs) id where
  ok := g.ok
  over := (over_loop hw hu).trans g.over
  split := by
    show (splitAtGen fs).map _ = none
    rw [g.split]; rfl
  guard := by
    show (gd false || fs.any Frame.guarded) = false
    rw [g.gd, g.guard]; rfl
  gd := rfl
theorem sg_cameBack {c : Code} {fs : List Frame} {K : Flow → Sem PySem.Fin} {J : Value → Sem PySem.Fin} {gd : Bool → Bool} {lv : List Value → List Value} {it : List (Addr × Obj)} {D : YE γ} {n : Nat} {s_0 s : Shared} {H_0 : Hp} {ip : List (Addr × Obj)} {d : YD γ} {e : Value}
    (g : YC Y c fs gd) (k : YK Y it c fs K J D) (h : cameBackBy (model Y.P Y.w) (Y.A.deeper Y.env) Y.env (Y.X s_0 H_0 d.ex ip).xe e s) :
    SegP (model Y.P Y.w) Y.A (YPhi Y n s_0 H_0 ip d) c (((Sem.raise e : Sem Flow).onRaise (cameBack Y.env)).wrap K J gd lv) fs s := by
  show SegP _ _ _ _ (((cameBack Y.env e).bind fun _ => (Sem.raise e : Sem Flow)).wrap K J gd lv) _ _
  rw [Sem.bind_eq_wrap, Sem.wrap_wrap]
  refine sg_wrap ?_
  rw [g.over]
  exact wpAny_mono h (fun _ s' hx => k.exc n s_0 H_0 ip d e s' hx) fun x s' hx => k.exc n s_0 H_0 ip d x s' hx
/-- an exception leaves a loop's code -/
theorem sg_lpEx {c c' : Code} {fs : List Frame} {K : Flow → Sem PySem.Fin} {J : Value → Sem PySem.Fin} {gd : Bool → Bool} {lv : List Value → List Value} {it : List (Addr × Obj)} {D : YE γ} {n : Nat} {s_0 s : Shared} {H_0 : Hp} {ip : List (Addr × Obj)} {d : YD γ} {e : Value} {p : Pos}
    (g : YC Y c fs gd) (k : YK Y it c fs K J D) (hw : c'.weight = 0) (hu : c'.cUnits = 0) (h : (Y.X s_0 H_0 d.ex ip).xe e s) :
    SegP (model Y.P Y.w) Y.A (YPhi Y n s_0 H_0 ip d) c' (lpEx Y.env e) (.ret (fun r => ((match r with | .ok f => (.pure f : Sem Flow) | .error e => .raise e).onRaise (cameBack Y.env)).wrap K J gd lv) none (gd false) (lv []) c p [] :: fs) s := by
  unfold lpEx
  refine sg_wrap ?_
  have gl := fun (kk : Result → Sem PySem.Fin) => yc_loop (k := kk) (c' := c') (l := lv []) (kp := []) (p := p) g hw hu
  rw [(gl _).over]
  refine wpAny_bind (wpAny_mono (owns_y (Y := Y) (s := s_0) (H := H_0) (E := d.ex) (ip := ip) e s h) (fun _ s'' hcb => wpAny_theTreesLotGoes ?_) fun y s'' hcb => ?_)
  · exact sg_leaf (.error e) (sg_cameBack g k hcb)
  · exact sg_leaf (.error y) (sg_cameBack g k hcb)
def tYWhile (c : TT) (tb : TY γ) : TY γ := fun D d σ H => ∃ W : Nat → YD γ → L2.St → Hp → Prop, (∃ m, W m d σ H) ∧ ∀ m d σ H, W m d σ H →
  c σ H fun b H1 => (b = true → tb { D with nx := fun d' σ' H' => ∃ m', m' < m ∧ W m' d' σ' H', ct := fun d' σ' H' => ∃ m', m' < m ∧ W m' d' σ' H', bk := D.nx } d σ H1) ∧ (b = false → D.nx d σ H1)
theorem ys_while {test : Expr} {body : List Stmt} {pos : Pos} {tc : TT} {tb : TY γ} (hc : ∀ s_0 H_0 E ip, PT (Y.X s_0 H_0 E ip) test tc) (hb : YSs Y body tb) : YS Y (.While test body [] pos) (tYWhile tc tb) := by
  refine ⟨fun it n s_0 H_0 ip c fs K J gd lv d D s σ H g k I q => ?_⟩
  obtain ⟨W, ⟨m0, w0⟩, turn⟩ := q
  refine sg_While fun p => ?_
  have gl := fun (kk : Result → Sem PySem.Fin) => yc_loop (k := kk) (c' := .whileLoop test body [] Y.env) (l := lv []) (kp := []) (p := p) g rfl rfl
  have loop : ∀ (m n : Nat) (s_0 : Shared) (H_0 : Hp) (ip : List (Addr × Obj)) (d : YD γ) (s : Shared) (σ : L2.St) (H : Hp), W m d σ H → YI Y s_0 H_0 ip d.ex it σ H s →
      SegP (model Y.P Y.w) Y.A (YPhi Y n s_0 H_0 ip d) (.whileLoop test body [] Y.env) ((model Y.P Y.w).den (.whileLoop test body [] Y.env))
        (.ret (fun r => ((match r with | .ok f => (.pure f : Sem Flow) | .error e => .raise e).onRaise (cameBack Y.env)).wrap K J gd lv) none (gd false) (lv []) c p [] :: fs) s := by
    intro m
    induction m using Nat.strongRecOn with
    | ind m ih =>
      intro n s_0 H_0 ip d s σ H w I
      refine sg_whileLoop ?_
      rw [(gl _).over]
      refine wpAny_mono ((hc s_0 H_0 d.ex ip).run _ s σ H _ I.inv (turn m d σ H w)) (fun b s' hb' => ?_) fun x s' hx => sg_lpEx g k rfl rfl hx
      obtain ⟨H2, I2, q2⟩ := hb'
      cases b with
      | true =>
        rw [if_pos rfl]
        refine hb.run it n s_0 H_0 ip _ _ _ _ id id d { D with nx := fun d' σ' H' => ∃ m', m' < m ∧ W m' d' σ' H', ct := fun d' σ' H' => ∃ m', m' < m ∧ W m' d' σ' H', bk := D.nx } s' σ H2 (gl _) ⟨fun n' s_0' H_0' ip' d' f s3 hs => ?_, fun n' s_0' H_0' ip' d' x s3 hx => sg_lpEx g k rfl rfl hx⟩ ⟨I2, I.sz, I.it⟩ (q2.1 rfl)
        cases f with
        | next =>
          obtain ⟨σ3, H3, I3, m', hm, w3⟩ := hs
          exact sg_again rfl (ih m' hm n' s_0' H_0' ip' d' s3 σ3 H3 w3 I3)
        | cont =>
          obtain ⟨σ3, H3, I3, m', hm, w3⟩ := hs
          exact sg_again rfl (ih m' hm n' s_0' H_0' ip' d' s3 σ3 H3 w3 I3)
        | brk => exact sg_leaf (.ok .next) (k.ok n' s_0' H_0' ip' d' .next s3 hs)
        | ret v => exact sg_leaf (.ok (.ret v)) (k.ok n' s_0' H_0' ip' d' (.ret v) s3 hs)
      | false =>
        rw [if_neg Bool.false_ne_true]
        refine sg_execs_nil ?_
        exact sg_leaf (.ok .next) (k.ok n s_0 H_0 ip d .next s' ⟨σ, H2, ⟨I2, I.sz, I.it⟩, q2.2 rfl⟩)
  exact loop m0 n s_0 H_0 ip d s σ H w0 I
/-- for x in ..: a walk that the iterators of the hand layer serve; a yield may stand within -/
def tYFor (wi : TI) (g : TG) (tb : TY γ) : TY γ := fun D d σ H => wi σ H fun J H1 => ∃ W : Nat → Nat → YD γ → L2.St → Hp → Prop, (∃ m, W 0 m d σ H1) ∧ ∀ i m d σ H, W i m d σ H →
  (J.stop i H ∧ D.nx d σ H) ∨ (J.go i H ∧ ∃ N : YD γ → L2.St → Hp → Prop, (∀ d' σ' H', N d' σ' H' → ∃ m', m' < m ∧ W (i + 1) m' d' σ' H') ∧ ∀ x H', J.yld i H x H' → g x σ H' fun σ2 H2 => tb { D with nx := N, ct := N, bk := D.nx } d σ2 H2)
theorem yi_unpin {s_0 : Shared} {H_0 : Hp} {ip it pl : List (Addr × Obj)} {E : XK} {σ : L2.St} {H : Hp} {s : Shared} (I : YI Y s_0 H_0 ip E (it ++ pl) σ H s) : YI Y s_0 H_0 ip E it σ H s :=
  ⟨I.inv.unpinned, I.sz, fun p hp => I.it p (List.mem_append_left _ hp)⟩
theorem ys_for {tg iter : Expr} {body : List Stmt} {wi : TI} {g : TG} {tb : TY γ} {pos : Pos} (hi : ∀ s_0 H_0 E ip, PI (Y.X s_0 H_0 E ip) tg iter wi) (hg : ∀ s_0 H_0 E ip, PG (Y.X s_0 H_0 E ip) tg g) (hb : YSs Y body tb)
    (hs : ∀ x, foldedSetIterable iter Y.env x = pure x := by intro _; rfl) : YS Y (.For tg iter body [] pos) (tYFor wi g tb) := by
  refine ⟨fun it n s_0 H_0 ip c fs K J gd lv d D s σ H cc k I q => ?_⟩
  rw [exec_For]
  refine sg_bind_wrap (wpAny_standAt ?_)
  refine sg_bind_wrap ?_
  rw [cc.over]
  refine wpAny_mono ((hi s_0 H_0 d.ex ip).run _ s σ H _ I.inv q) (fun v s1 h1 => ?_) fun x s' hx => k.exc n s_0 H_0 ip d x s' hx
  rw [hs v]
  refine sg_bind_wrap (wpAny_pure ?_)
  refine sg_bind_wrap (wpAny_standAt ?_)
  refine sg_bind_wrap (wpAny_holding ?_)
  rw [cc.over]
  refine wpAny_mono h1 (fun itv s2 h2 => ?_) fun x s' hx => k.exc n s_0 H_0 ip d x s' hx
  obtain ⟨ia, fp, tn, Jt, H2, e, I2, T, st2, f2, W, ⟨m0, w0⟩, turn⟩ := h2
  subst e
  refine sg_forCall fun p => ?_
  have gl := fun (kk : Result → Sem PySem.Fin) => yc_loop (k := kk) (c' := .forLoop tg (.ref ia) body [] Y.env) (l := lv []) (kp := []) (p := p) cc rfl rfl
  have fpL : ∀ b ∈ fp, Y.L ≤ b := fun b hb => by
    rcases (f2 b hb).2.2.2.1 with z | z
    · exact absurd (show b ∈ ([] : List Addr) from z) (by simp)
    · have z : s_0.heap.objs.size ≤ b := z
      rw [I.sz] at z
      exact z
  have fpI : ∀ b ∈ fp, ∀ q ∈ it, q.1 ≠ b := fun b hb q hq => (f2 b hb).2.2.2.2.2 q (List.mem_append_right _ hq)
  have fpS : ∀ b ∈ fp, b ≠ Y.env.locals ∧ b ∉ frs Y.outer := fun b hb => ⟨(f2 b hb).2.1, (f2 b hb).2.2.1⟩
  have stat : ∀ {s_0 : Shared} {H_0 : Hp} {ip : List (Addr × Obj)} {E : XK} {H' : Hp}, s_0.heap.objs.size = Y.L → (∀ b ∈ fp, H' b = none ∧ ∀ q ∈ ip, q.1 ≠ b) → ∀ b ∈ fp, FpOk (Y.X s_0 H_0 E ip) it H' b := fun {s_0 H_0 ip E H'} hz hn b hb =>
    ⟨(hn b hb).1, (fpS b hb).1, (fpS b hb).2, .inr (by show s_0.heap.objs.size ≤ b; rw [hz]; exact fpL b hb), fun x c h => (cc.ok.nc x c h).elim, fun q hq => (List.mem_append.mp hq).elim (fun z => (hn b hb).2 q z) fun z => fpI b hb q z⟩
  have loop : ∀ (m i n : Nat) (s_0 : Shared) (H_0 : Hp) (ip : List (Addr × Obj)) (d : YD γ) (s : Shared) (σ : L2.St) (H : Hp), W i m d σ H → YI Y s_0 H_0 ip d.ex it σ H s → tn i s.heap → (∀ b ∈ fp, H b = none ∧ ∀ q ∈ ip, q.1 ≠ b) →
      SegP (model Y.P Y.w) Y.A (YPhi Y n s_0 H_0 ip d) (.forLoop tg (.ref ia) body [] Y.env) ((model Y.P Y.w).den (.forLoop tg (.ref ia) body [] Y.env))
        (.ret (fun r => ((match r with | .ok f => (.pure f : Sem Flow) | .error e => .raise e).onRaise (cameBack Y.env)).wrap K J gd lv) none (gd false) (lv []) c p [] :: fs) s := by
    intro m
    induction m using Nat.strongRecOn with
    | ind m ih =>
      intro i n s_0 H_0 ip d s σ H w I st fr
      have ee : ∀ (n : Nat) (s_0 : Shared) (H_0 : Hp) (ip : List (Addr × Obj)) (d : YD γ) (x : Value) (s' : Shared), (Y.X s_0 H_0 d.ex ip).xe x s' → SegP (model Y.P Y.w) Y.A (YPhi Y n s_0 H_0 ip d) (.forLoop tg (.ref ia) body [] Y.env) (lpEx Y.env x)
        (.ret (fun r => ((match r with | .ok f => (.pure f : Sem Flow) | .error e => .raise e).onRaise (cameBack Y.env)).wrap K J gd lv) none (gd false) (lv []) c p [] :: fs) s' := fun n s_0 H_0 ip d x s' hx => sg_lpEx cc k rfl rfl hx
      refine sg_forLoop ?_
      rw [(gl _).over]
      rcases turn i m d σ H w with ⟨stop, qn⟩ | ⟨go, N, hN, step⟩
      · refine wpAny_mono (T.done (Y.X s_0 H_0 d.ex ip) rfl rfl rfl rfl i it s σ H (Y.X s_0 H_0 d.ex ip).xe I.inv (stat I.sz fr) st stop) (fun r s4 h4 => ?_) fun x s' hx => ee n s_0 H_0 ip d x s' hx
        obtain ⟨rfl, I4⟩ := h4
        refine sg_again rfl ?_
        show SegP _ _ _ _ ((execs [] Y.env).onRaise (fun x => do noteFrame x Y.env; theTreesLotGoes x) >>= fun f => pure (.done f)) _ s4
        exact sg_leaf (.ok .next) (k.ok n s_0 H_0 ip d .next s4 ⟨σ, H, ⟨I4, I.sz, I.it⟩, qn⟩)
      · refine wpAny_mono (T.item (Y.X s_0 H_0 d.ex ip) rfl rfl rfl rfl i it s σ H (Y.X s_0 H_0 d.ex ip).xe I.inv (stat I.sz fr) st go) (fun r s4 h4 => ?_) fun x s' hx => ee n s_0 H_0 ip d x s' hx
        obtain ⟨u, rfl, h4⟩ := h4
        refine wpAny_mono h4 (fun _ s5 h5 => ?_) fun x s' hx => ee n s_0 H_0 ip d x s' hx
        obtain ⟨x, H5, I5, r5, y5, st5, fr5⟩ := h5
        have I5' := I5.pinned (stat (H_0 := H_0) (E := d.ex) I.sz fun b hb => ⟨fr5 b hb, (fr b hb).2⟩) (T.obj _ _ st5)
        refine wpAny_mono ((hg s_0 H_0 d.ex ip).run _ s5 σ H5 x u _ I5' r5 (step x H5 y5)) (fun _ s6 h6 => ?_) fun x s' hx => ee n s_0 H_0 ip d x s' hx
        obtain ⟨σ6, H6, I6, q6⟩ := h6
        have I6' : YI Y s_0 H_0 ip d.ex (it ++ pinsAt fp s5.heap) σ6 H6 s6 := ⟨I6, I.sz, fun p hp => (List.mem_append.mp hp).elim (fun z => I.it p z) fun z => ⟨fpL _ (of_pinsAt z).1, fun q hq => (fr _ (of_pinsAt z).1).2 q hq⟩⟩
        refine hb.run (it ++ pinsAt fp s5.heap) n s_0 H_0 ip _ _ _ _ id id d { D with nx := N, ct := N, bk := D.nx } s6 σ6 H6 (gl _) ⟨fun n' s_0' H_0' ip' d' f s7 hs => ?_, fun n' s_0' H_0' ip' d' x s7 hx => ee n' s_0' H_0' ip' d' x s7 hx⟩ I6' q6
        have again : ∀ {σ7 : L2.St} {H7 : Hp}, YI Y s_0' H_0' ip' d'.ex (it ++ pinsAt fp s5.heap) σ7 H7 s7 → N d' σ7 H7 → SegP (model Y.P Y.w) Y.A (YPhi Y n' s_0' H_0' ip' d') (.forLoop tg (.ref ia) body [] Y.env) (.pure (.again (.forLoop tg (.ref ia) body [] Y.env)))
            (.ret (fun r => ((match r with | .ok f => (.pure f : Sem Flow) | .error e => .raise e).onRaise (cameBack Y.env)).wrap K J gd lv) none (gd false) (lv []) c p [] :: fs) s7 := fun {σ7 H7} I7 n7 => by
          obtain ⟨m', hm, w7⟩ := hN d' σ7 H7 n7
          refine sg_again rfl (ih m' hm (i + 1) n' s_0' H_0' ip' d' s7 σ7 H7 w7 (yi_unpin I7) (T.keep _ _ _ st5 fun b hb o e => (I7.inv.pin (b, o) (List.mem_append_right _ (List.mem_append_right _ (mem_pinsAt hb e)))).1) fun b hb => ?_)
          obtain ⟨o, e, _⟩ := T.obj _ _ st5 b hb
          exact ⟨(I7.inv.pin (b, o) (List.mem_append_right _ (List.mem_append_right _ (mem_pinsAt hb e)))).2.1, (I7.it (b, o) (List.mem_append_right _ (mem_pinsAt hb e))).2⟩
        cases f with
        | next => obtain ⟨σ7, H7, I7, n7⟩ := hs; exact again I7 n7
        | cont => obtain ⟨σ7, H7, I7, n7⟩ := hs; exact again I7 n7
        | brk =>
          obtain ⟨σ7, H7, I7, q7⟩ := hs
          exact sg_leaf (.ok .next) (k.ok n' s_0' H_0' ip' d' .next s7 ⟨σ7, H7, yi_unpin I7, q7⟩)
        | ret v =>
          obtain ⟨x7, σ7, H7, I7, r7, q7⟩ := hs
          exact sg_leaf (.ok (.ret v)) (k.ok n' s_0' H_0' ip' d' (.ret v) s7 ⟨x7, σ7, H7, yi_unpin I7, r7, q7⟩)
  exact loop m0 0 n s_0 H_0 ip d s2 σ H2 w0 ⟨I2, I.sz, I.it⟩ st2 fun b hb => ⟨(f2 b hb).1, fun q hq => (f2 b hb).2.2.2.2.2 q (List.mem_append_left _ hq)⟩
end
end XL
set_option Elab.async false
set_option linter.all false
set_option maxRecDepth 100000
set_option maxHeartbeats 4000000
/-! XYield: a generator def by its body; a loop over such a generator. -/
namespace XL
open PySem PySem.Spec PyProof.Rows L2 GenW

/-- what a call of a generator def gives: a generator that has not begun -/
def GMadeY {γ : Type} (P : Program) (w : World) (K : PySem.W.Frag) (mg : Str → Option Value) (base : Heap) (k : Nat) (outer : List Env) (go : γ → Hp → YD γ → Prop) (g0 : γ) (s : Shared) (u : Value) (s' : Shared) : Prop :=
  ∃ (a L : Addr) (g : Nat) (c : Code) (oa oL : Obj), u = .ref a ∧ s.heap.objs.size ≤ a ∧ s.heap.objs.size ≤ L ∧ L ≠ a ∧ s'.heap.get? a = some oa ∧ (∀ h : Heap, h.get? a = some oa → h.IsGen a g) ∧ (∀ v, oa.data ≠ .cell v) ∧ s'.heap.get? L = some oL ∧ (∀ v, oL.data ≠ .cell v) ∧
    s'.gens[g]? = some (.fresh c) ∧ s'.os = s.os ∧ AllBare s'.gens ∧ (∀ b o, s.heap.get? b = some o → s'.heap.get? b = some o) ∧
    ∀ (A : Around), Room k A → A.frames = some outer → ∃ Y : YG γ, Y.P = P ∧ Y.w = w ∧ Y.K = K ∧ Y.mg = mg ∧ Y.base = base ∧ Y.outer = outer ∧ Y.A = A ∧ Y.L = L ∧ Y.go = go ∧ ∀ n, Rst Y n g0 (.fresh c) [(L, oL)]
/-- a generator def's promise; st: the state that the arguments make -/
structure YFn {γ : Type} (P : Program) (w : World) (K : PySem.W.Frag) (mg : Str → Option Value) (base : Heap) (k : Nat) (f : Addr) (fd : FuncData) (ps : List Str) (go : γ → Hp → YD γ → Prop) (st : List V → γ) : Prop where
  run : ∀ (A : Around) (outer : List Env) (s : Shared) (H : Hp) (args : Args) (us : List Value) (vs : List V), Room k A → Env0 P w K mg base A outer s H → BindsTo s fd args (ps.zip us) → Vals vs us → vs.length = ps.length →
    codeAny (model P w) A (.call (.ref f) args) (fun r s' => match r with | .ok (.ret u) => GMadeY P w K mg base k outer go (st vs) s u s' | _ => False) s
theorem YFn.mono {γ : Type} {P : Program} {w : World} {K : PySem.W.Frag} {mg : Str → Option Value} {base : Heap} {j k : Nat} {f : Addr} {fd : FuncData} {ps : List Str} {go : γ → Hp → YD γ → Prop} {st : List V → γ} (F : YFn P w K mg base j f fd ps go st) (h : j ≤ k) : YFn P w K mg base k f fd ps go st :=
  ⟨fun A outer s H args us vs hr e0 hb r hl => codeAny_mono (F.run A outer s H args us vs (hr.mono h) e0 hb r hl) fun r s' hq => by
    cases r with
    | error e => exact hq
    | ok fl =>
      cases fl with
      | ret u =>
        obtain ⟨a, L, g, c, oa, oL, h1, h2, h3, h4, h5, h6, h7, h8, h9, h10, h11, h12, h13, h14⟩ := hq
        exact ⟨a, L, g, c, oa, oL, h1, h2, h3, h4, h5, h6, h7, h8, h9, h10, h11, h12, h13, fun A hr hf => h14 A (hr.mono h) hf⟩
      | next => exact hq
      | brk => exact hq
      | cont => exact hq⟩
theorem no_cells {x : Str} {c : Addr} : ∀ {names : List (Str × NameKind)} {n : Nat}, (∀ y ∈ names, y.2 ≠ .cell) → (cellsFrom n names []).lookup x = some c → False
  | [], _, _, h => by cases h
  | (y, k) :: r, n, hn, h => by
    unfold cellsFrom at h
    rw [if_neg (by
      have := hn (y, k) List.mem_cons_self
      cases k <;> first | exact absurd rfl this | decide)] at h
    exact no_cells (fun z hz => hn z (List.mem_cons_of_mem _ hz)) h
/-- THE RULE: a generator def, by its body -/
theorem yfn_of {γ : Type} {P : Program} {w : World} {K : PySem.W.Frag} {mg : Str → Option Value} {base : Heap} {k : Nat} {f : Addr} {name qual : Str} {params : Arguments} {body : List Stmt} {scope : Scope} {dV kV doc pm cdv ct oc : Value} {an od : Option Addr}
    {osl : Array (Option Value)} {N ps : List Str} {go : γ → Hp → YD γ → Prop} {st : List V → γ} (lk : K.lookup f = some ⟨oc, od, .func (PySem.W.fnOf name qual params body scope dV kV doc pm an cdv ct), osl⟩) (hcd : PySem.W.codeIn K cdv qual = true) (S : GScope N ps scope)
    (nc : ∀ y ∈ scope.names, y.2 ≠ .cell)
    (hbody : ∀ (L : Addr) (A : Around) (outer : List Env) (vs : List V), Room k (A.deeper (envOfC qual scope L f cdv)) → vs.length = ps.length →
      ∃ t, YSs (⟨P, w, K, mg, base, N, qual, scope, f, cdv, L, A, outer, go⟩ : YG γ) body t ∧ ∀ H d, go (st vs) H d → t { nx := fun d _ H' => d.qd H', rt := fun d v H' => v = .non ∧ d.qd H' } d (start N vs) H) :
    YFn P w K mg base (k + 1) f (PySem.W.fnOf name qual params body scope dV kV doc pm an cdv ct) ps go st := by
  refine ⟨fun A outer s H args us vs hr e0 hb r hl => ?_⟩
  have KX : K.In s.heap := e0.mod.kin.keeps fun b o e => (e0.bs b o e).1
  have lim : s.heap.NoLimit := e0.mod.nolimit.keeps fun b o e => (e0.bs b o e).1
  have hkind : ∀ y ∈ ps.zip us, scope.names.lookup y.1 = some .local ∨ (scope.names.lookup y.1 = some .cell ∧ ((cellsFrom (s.heap.objs.size + 1) scope.names []).lookup y.1).isSome = true) := fun ⟨n, v⟩ hy => by
    rcases S.par n (List.of_mem_zip hy).1 with q | q
    · exact .inl q
    · exact .inr ⟨q, PySem.W.cellsFrom_some _ _ _ (.inl q)⟩
  refine codeAny_call_generator hr.depth (KX _ _ lk) rfl S.co S.gen rfl (PySem.W.codeRec_of KX hcd) (hb _ _ _ _ ?_)
  refine wpAny_newFunctionEnv_cells S.kind hkind fun env he s1 x => ?_
  subst he
  have lim1 : s1.heap.NoLimit := lim.keeps x.toInCall.keep
  refine ⟨lim1, ?_⟩
  obtain ⟨h1, tk, es1, hk1⟩ := x.done
  have os1 : s1.os = s.os := by rw [es1]
  have gen1 : s1.gens = s.gens := by rw [es1]
  have lt1 : s.heap.objs.size < s1.heap.objs.size := x.toInCall.ns.lt
  have sz1 : s.heap.objs.size ≤ s1.heap.objs.size := Nat.le_of_lt lt1
  have kp1 : ∀ b o, s.heap.get? b = some o → s1.heap.get? b = some o := x.toInCall.keep
  obtain ⟨oL, es, ep, hoL, hdL, _⟩ := id x.toInCall.ns
  have main : ∀ (oa : Obj) (nm qn : Value) (tk2 : Nat), oa.cls = .type "generator" → oa.data = .fields #[.int s1.gens.size 0, nm, qn] → oa.slots = #[] → (∀ h : Heap, (h.push oa).get? h.objs.size = some oa) →
      GMadeY P w K mg base (k + 1) outer go (st vs) s (.ref s1.heap.objs.size) { s1 with gens := s1.gens.push (.fresh (.func body (envOfC qual scope s.heap.objs.size f cdv))), toks := tk2, heap := s1.heap.push oa } := by
    intro oa nm qn tk2 hgc hgd0 hgs hgp
    refine ⟨s1.heap.objs.size, s.heap.objs.size, s1.gens.size, _, oa, oL, rfl, sz1, Nat.le_refl _, Nat.ne_of_lt lt1, hgp _, fun h e => ⟨oa, nm, qn, e, hgc, hgd0, hgs⟩, (fun v q => by rw [hgd0] at q; cases q), Heap.get?_push_of_some _ hoL, (fun v q => by rw [hdL] at q; cases q), Array.getElem?_push_size .., os1, ?_, fun b o e => Heap.get?_push_of_some _ (kp1 b o e), ?_⟩
    · exact AllBare.push (by rw [gen1]; exact e0.bare) rfl
    intro Aw hrw hfr
    refine ⟨⟨P, w, K, mg, base, N, qual, scope, f, cdv, s.heap.objs.size, Aw, outer, go⟩, rfl, rfl, rfl, rfl, rfl, rfl, rfl, rfl, rfl, fun n => ?_⟩
    cases n with
    | zero => exact trivial
    | succ n =>
      intro s2 H2 ip d wk hg
      have e0w : Env0 P w K mg base Aw outer s H := ⟨hfr, e0.mod, e0.bs, e0.bsz, e0.funs, e0.frf, e0.hok, e0.bare⟩
      obtain ⟨t, ht, hq⟩ := hbody s.heap.objs.size Aw outer vs (hrw.deeper _) hl
      have I1 : L2.Inv (gcxOf P w K mg base N qual scope f cdv Aw outer s H (fun _ _ _ => False) []) [] (start N vs) H s1 := inv_startG S hrw.hd e0w hl r x
      have yok : YG.Ok (⟨P, w, K, mg, base, N, qual, scope, f, cdv, s.heap.objs.size, Aw, outer, go⟩ : YG γ) := ⟨fun y c h => no_cells nc h, e0.bsz, fun b hb => by
        obtain ⟨_, o, ho, _⟩ := e0.funs.mem hb
        exact Heap.lt_size ho⟩
      have J : YI (⟨P, w, K, mg, base, N, qual, scope, f, cdv, s.heap.objs.size, Aw, outer, go⟩ : YG γ) s H [] (fun _ _ _ => False) [] (start N vs) H s1 :=
        ⟨⟨⟨I1.ok.mod, I1.ok.kind, I1.ok.glob, I1.ok.blt, I1.ok.above, I1.ok.inj, I1.ok.has, I1.ok.cab, I1.ok.hd, I1.ok.frames, I1.ok.stk, I1.ok.exf, I1.ok.bs, I1.ok.bsz, I1.ok.noex, I1.ok.exfs, I1.ok.funs, I1.ok.frf⟩, I1.os, I1.bare, I1.base, I1.loc, I1.cell, I1.free, I1.freeC, I1.pin, I1.hok, I1.len⟩, rfl, fun p hp => by simp at hp⟩
      have J2 := J.woke yok hoL wk (E2 := d.ex)
      refine sg_func ?_
      refine ht.run [] n (cutS s2 s.heap.objs.size) H2 ip _ [] _ _ id id d _ s2 (start N vs) H2 ⟨yok, over_func, rfl, rfl, rfl⟩ ⟨fun n' s_0 H_0 ip' d' fl s' hs => ?_, fun n' s_0 H_0 ip' d' e s' hx => ?_⟩ J2 (hq H2 d hg)
      · cases fl with
        | next =>
          obtain ⟨σ', H', hI, hQ⟩ := hs
          exact sg_end (.ok (.ret .none)) (by cases n' <;> exact ⟨.inl rfl, H', hI.after, hQ⟩)
        | brk => obtain ⟨_, _, _, q⟩ := hs; exact False.elim q
        | cont => obtain ⟨_, _, _, q⟩ := hs; exact False.elim q
        | ret u =>
          obtain ⟨v, σ', H', hI, rv, ev, hQ⟩ := hs
          subst ev
          have eu : u = Value.none := rv
          subst eu
          exact sg_end (.ok (.ret .none)) (by cases n' <;> exact ⟨.inl rfl, H', hI.after, hQ⟩)
      · refine sg_wrap ?_
        rw [over_func]
        refine wpAny_mono (show wpAny (model P w) (Aw.deeper (envOfC qual scope s.heap.objs.size f cdv)) (leaving (envOfC qual scope s.heap.objs.size f cdv) e) (fun _ s'' => CXY P w outer H_0 s_0 ip' d'.ex e s'') (fun _ _ => False) s' from hx) (fun _ s'' q => ?_) fun _ s'' q => q.elim
        exact sg_end (.error e) (by cases n' <;> exact q)
  exact main _ _ _ _ rfl rfl rfl fun h => Heap.get?_push_size _ rfl
end XL
set_option Elab.async false
set_option linter.all false
set_option maxRecDepth 100000
set_option maxHeartbeats 4000000
/-! XGenFor: for x in f(..), f a generator def, with a body of its own. -/
namespace XL
open PySem PySem.Spec PyProof.Rows L2 GenW

/-! ### woken -/
def RunsNow (M : Model) (A : Around) (gs : GenState) (Φ : End → Shared → Prop) (s : Shared) : Prop := match gs with
  | .fresh c => SegP M A Φ c (M.den c) [] s
  | .suspended k _ c _ fs _ => SegP M A Φ c (k (.send .none)) fs s
  | _ => False
theorem wpAny_resumeY {M : Model} {A : Around} {Φ : End → Shared → Prop} {E : Value → Shared → Prop} {s : Shared} {g : Nat} {gs : GenState} {l : List Value} {α : Type} {k : GenResult → Sem α} {Q : α → Shared → Prop} (hg : s.gens[g]? = some gs)
    (hgo : RunsNow M A gs Φ (s.setGen g .running)) (hq : ∀ e s1, Φ e s1 → e.quiet = true ∧ wpAny M A (k e.result) Q E (s1.setGen g e.genState)) : wpAny M A (.resume g (.send .none) l k) Q E s := by
  intro Γ p hΓ
  rw [Sem.wp_resume]
  cases gs with
  | fresh c =>
    obtain ⟨e, s1, hr, he⟩ := hgo (Γ.wake c p) p rfl (hΓ.wake c p)
    obtain ⟨h1, h2⟩ := hq e s1 he
    exact ⟨_, _, by unfold Wakes; rw [hg]; exact ⟨e, s1, hr, h1, rfl, rfl⟩, h2 Γ p hΓ⟩
  | suspended k₀ l₀ c₀ p₀ fs₀ cl =>
    obtain ⟨e, s1, hr, he⟩ := hgo (Γ.wake c₀ p) p₀ rfl (hΓ.wake c₀ p)
    obtain ⟨h1, h2⟩ := hq e s1 he
    exact ⟨_, _, by unfold Wakes; rw [hg]; exact ⟨e, s1, hr, h1, rfl, rfl⟩, h2 Γ p hΓ⟩
  | running => exact hgo.elim
  | finished => exact hgo.elim
section
variable {P : Program} {w : World} {A : Around} {E : Value → Shared → Prop} {s : Shared}
theorem next_genY {a : Addr} {g : Nat} {gs : GenState} {Φ : End → Shared → Prop} {Q : Option Value → Shared → Prop} (hh : A.handled = none)
    (hl : s.heap.NoLimit) (hroom : A.depth < recursionLimit) (hg : s.heap.IsGen a g) (hgs : s.gens[g]? = some gs)
    (hgo : RunsNow (model P w) A.in1 gs Φ (s.setGen g .running))
    (hΦ : ∀ e s1, Φ e s1 → match e with
      | .ret (.ok f) => (f = .ret .none ∨ f = .next) ∧ ∀ h', (∀ b o, s1.heap.get? b = some o → h'.get? b = some o) → Q none { s1.setGen g .finished with heap := h' }
      | .ret (.error x) => s1.heap.IsGen a g ∧ NotStop (model P w) x s1.heap ∧ E x (s1.setGen g .finished)
      | .susp v gd l k c p fs => (End.susp v gd l k c p fs).quiet = true ∧ Q (some v) (s1.setGen g (End.susp v gd l k c p fs).genState)) :
    wpAny (model P w) A (pyNext (.ref a)) Q E s := by
  unfold pyNext
  refine wpAny_bind (wpAny_attempt (wpAny_callSpecial?_slot (name := Str.ofString "__next__") hg.typeIs slot_gen_next
    (wpAny_call_entry slot_gen_next hg.typeIs entry_gen_next ?_ (args_gen_next _))))
  show wpAny _ A.in1 (Builtin.Generator.genWake (.ref a) (.send .none)) _ _ s
  unfold Builtin.Generator.genWake
  refine wpAny_bind (wpAny_holding (wpAny_genNumber hg (wpAny_bind (wpAny_genState hgs ?_))))
  cases gs with
  | running => exact hgo.elim
  | finished => exact hgo.elim
  | _ =>
    refine wpAny_bind (wpAny_roomToWake hl hroom ?_)
    show wpAny _ A.in1 (.resume g (.send .none) [] _) _ _ s
    refine wpAny_resumeY hgs hgo fun e s₁ he => ?_
    have hx := hΦ e s₁ he
    cases e with
    | susp v gd l k c p fs => exact ⟨hx.1, wpAny_pure ⟨v, rfl, wpAny_pure hx.2⟩⟩
    | ret r =>
      refine ⟨rfl, ?_⟩
      cases r with
      | ok f =>
        obtain ⟨hr, hp⟩ := hx
        have hres : End.result (.ret (.ok f)) = .returned .none := by
          rcases hr with hr | hr <;> rw [hr] <;> rfl
        first | rw [hres] | simp only [hres]
        show wpAny _ A.in1 (newExc (.type "StopIteration") [] >>= _) _ _ _
        refine wpAny_bind ?_
        simp only [newExc, newTuple]
        refine wpAny_bind (wpAny_newObj_type ?_ (by size_fits))
        refine wpAny_bind (m := firstArgMember _ _) (wpAny_of_eq (a := Value.none) (by first | rfl | (simp only [firstArgMember]; rfl)) ?_)
        refine wpAny_newObj_type ?_ (by size_fits)
        simp only [raiseNew]
        refine wpAny_bind (wpAny_bind (wpAny_handled ?_))
        first | rw [show A.in1.handled = none from hh] | rw [hh]
        refine wpAny_throw ?_
        refine wpAny_bind (wpAny_isInstance (T := "StopIteration") (b := true) ⟨_, Heap.get?_push_size _ rfl, rfl⟩ isSubtype_stop ?_)
        exact wpAny_pure (hp _ fun b o hb => Heap.get?_push_of_some _ (Heap.get?_push_of_some _ hb))
      | error e =>
        obtain ⟨hg1, hns, hq⟩ := hx
        obtain ⟨o, nm, qn, ho, hc, hd, hsl⟩ := hg1
        show wpAny _ A.in1 (Builtin.Generator.genLeft (.ref a) e) _ _ _
        unfold Builtin.Generator.genLeft Builtin.Generator.madeByALambda
        refine wpAny_bind (wpAny_bind (wpAny_load (o := o) ho (wpAny_pure ?_)))
        refine wpAny_bind (hns _ _ _ _ rfl ?_)
        rw [Bool.and_false, if_neg Bool.false_ne_true]
        unfold Builtin.Generator.genEscaped
        first
          | refine wpAny_bind (hns _ _ _ _ rfl ?_)
          | refine wpAny_bind (wpAny_pure (wpAny_bind (hns _ _ _ _ rfl ?_)))
        rw [if_pos (show (!false) = true from rfl)]
        first
          | refine wpAny_throw ?_
          | refine wpAny_bind (wpAny_throw ?_)
        refine wpAny_bind (hns _ _ _ _ rfl ?_)
        rw [if_neg Bool.false_ne_true]
        exact wpAny_throw hq
end

/-! ### the consumer behind a run of the generator -/
section
variable {X : Cx} {pins : List (Addr × Obj)} {σ : L2.St} {H H' : Hp} {s s' : Shared} {L : Nat}
theorem inv_afterY {ip : List (Addr × Obj)} (I : L2.Inv X pins σ H s) (hL : X.s_0.heap.objs.size ≤ L) (hLl : X.env.locals < L) (hLc : ∀ x c, X.env.cells.lookup x = some c → c < L) (hip : ∀ p ∈ X.pn ++ pins, p ∈ ip)
    (A : After X.prog X.w X.stack (cutS s L) H ip s' H') : L2.Inv X pins σ H' s' := by
  obtain ⟨os, bare, un, hok, pin⟩ := A
  have lt0 : ∀ {b : Addr} {o : Obj}, X.s_0.heap.get? b = some o → b < L := fun e => Nat.lt_of_lt_of_le (Heap.lt_size e) hL
  have neS : ∀ {b : Addr} {o : Obj}, X.s_0.heap.get? b = some o → b ∉ X.fs → b ∉ frs X.stack := fun {b o} e hb hm => by
    rcases List.mem_cons.mp (I.stkSub b hm) with z | z
    · have h1 := Heap.lt_size e
      have h2 := I.ok.above
      rw [z] at h1
      exact absurd (Nat.lt_of_lt_of_le h1 h2) (Nat.lt_irrefl _)
    · exact hb z
  have any : ∀ {b : Addr} {o : Obj}, b < L → s.heap.get? b = some o → H b = none → ∃ sl, s'.heap.get? b = some { o with slots := sl } := fun {b o} hb e n => un.any (cut_to hb e) n (by simp)
  obtain ⟨m, ⟨ol, es, ep, hol, hdl, rl⟩, hl⟩ := id I.loc
  obtain ⟨sl, hL'⟩ := any hLl hol I.free
  have cellK : ∀ x c, X.env.cells.lookup x = some c → ∀ v, s.heap.IsCell c v → s'.heap.IsCell c v := fun x c e v ⟨o, ho, hd⟩ => by
    obtain ⟨sl, q⟩ := any (hLc x c e) ho (I.freeC x c e)
    exact ⟨_, q, hd⟩
  refine ⟨I.ok, os.trans I.os, bare, ⟨fun b o e n hb hx => ?_, fun b o e n hb hx => ?_, fun b o e n hx => ?_, fun b o e hx => ?_, fun b xs e => un.tups b xs (I.base.tups b xs e), fun b o xs e => un.frzs b o xs (I.base.frzs b o xs e), fun b ps e => ?_⟩,
    ⟨m, ⟨_, es, ep, hL', hdl, rl⟩, fun i x v h1 h2 h3 => ?_⟩, fun x c e => ?_, un.free _ ol (cut_to hLl hol) I.free (by simp), fun x c e => ?_, fun p hp => ?_, hok, I.len⟩
  · exact un.keep b o (cut_to (lt0 e) (I.base.keep b o e n hb hx)) (I.base.free b o e n hx) (neS e hb) (by simp)
  · obtain ⟨sl, e1⟩ := I.base.slot b o e n hb hx
    obtain ⟨sl', e2⟩ := any (lt0 e) e1 (I.base.free b o e n hx)
    exact ⟨sl', e2⟩
  · obtain ⟨o', e1⟩ := I.base.there b o e hx
    exact un.free b o' (cut_to (lt0 e) e1) (I.base.free b o e n hx) (by simp)
  · obtain ⟨o', e1⟩ := I.base.there b o e hx
    exact un.there b o' (cut_to (lt0 e) e1) (by simp)
  · obtain ⟨m1, e1⟩ := I.base.tbls b ps e
    obtain ⟨m2, e2⟩ := un.tbls b _ e1
    exact ⟨m1 ++ m2, by rw [e2, Array.append_assoc]⟩
  · obtain ⟨u, r, l⟩ := hl i x v h1 h2 h3
    refine ⟨u, r, ?_⟩
    rcases l with l | ⟨k, c, e, z⟩
    · exact .inl l
    · exact .inr ⟨k, c, e, cellK x c e _ z⟩
  · obtain ⟨v, z⟩ := I.cell x c e
    exact ⟨v, cellK x c e v z⟩
  · obtain ⟨v, o, ho, hd⟩ := I.cell x c e
    exact un.free c o (cut_to (hLc x c e) ho) (I.freeC x c e) (by simp)
  · obtain ⟨_, _, h3, h4, h5⟩ := I.pin p hp
    obtain ⟨e1, e2⟩ := pin p (hip p hp)
    exact ⟨e1, e2, h3, h4, h5⟩
/-- an exception that left the generator, taken by the consumer -/
theorem xe_of_callY {W : WX} {E : XK} {ip : List (Addr × Obj)} (I : L2.Inv X pins σ H s) (hL : X.s_0.heap.objs.size ≤ L) (hLl : X.env.locals < L) (hLc : ∀ x c, X.env.cells.lookup x = some c → c < L) (hip : ∀ p ∈ X.pn ++ pins, p ∈ ip)
    (hW : ∀ cls d H', E cls d H' → W cls d σ H') {u : Value} (c : CXY X.prog X.w X.stack H (cutS s L) ip E u s') : XE X W u s' := by
  obtain ⟨a, B, H', cls, d, rfl, fl, hok, ub, na, os, ag, hE, hp⟩ := c
  obtain ⟨G, g1, g2⟩ := restrict s'.heap fun b => (B.get? b).isSome || decide (b ∈ frs X.stack)
  have st : B.StaysIn s'.heap := fl.1
  have gB : ∀ b o, B.get? b = some o → G.get? b = some o := fun b o e => by
    rw [g1 b (by simp [e])]
    exact st b o e
  have gF : ∀ b, b ∈ frs X.stack → G.get? b = s'.heap.get? b := fun b hb => g1 b (by simp [hb])
  have og : ∀ b o, G.get? b = some o → s'.heap.get? b = some o ∧ ((B.get? b).isSome = true ∨ b ∈ frs X.stack) := fun b o e => by
    cases q : ((B.get? b).isSome || decide (b ∈ frs X.stack)) with
    | false => rw [g2 b q] at e; cases e
    | true =>
      rw [g1 b q] at e
      exact ⟨e, by simpa [Bool.or_eq_true] using q⟩
  have un : Un (frs X.stack) [] H H' (cutS s L).heap G := ⟨fun b o e n hb _ => gB b o (ub.keep b o e n hb), fun b o e n hb _ => by
      obtain ⟨sl, q⟩ := ub.slot b o e hb
      exact ⟨sl, by rw [gF b hb]; exact q⟩, fun b o e n _ => ub.free b o e n, fun b o e _ => by
      by_cases hb : b ∈ frs X.stack
      · obtain ⟨sl, q⟩ := ub.slot b o e hb
        exact ⟨_, by rw [gF b hb]; exact q⟩
      · obtain ⟨o', q⟩ := ub.there b o e hb
        exact ⟨o', gB b o' q⟩, ub.tups, ub.frzs, ub.tbls⟩
  refine ⟨a, B, { s with heap := G, gens := s'.gens, drawn := s'.drawn, toks := s'.toks }, pins, σ, H', cls, d, rfl, ?_, fun b o e hb => ?_, Heap.UpToSlots.of_keeps fun b o e => (og b o e).1, .inr (.inl fl), na, os, ag, hW _ _ _ hE⟩
  · exact inv_afterY (s' := { s with heap := G, gens := s'.gens, drawn := s'.drawn, toks := s'.toks }) I hL hLl hLc hip ⟨rfl, ag, un, hok.kept gB, fun p hpp => ⟨gB _ _ (hp p hpp).1, (hp p hpp).2⟩⟩
  · obtain ⟨e', h⟩ := og b o e
    rcases h with h | h
    · obtain ⟨o', q⟩ := Option.isSome_iff_exists.mp h
      have z := st b o' q
      rw [e'] at z; cases z
      exact q
    · exact absurd h hb
end
/-- no exception hears of a deaf generator -/
def Deaf (X : Cx) : Prop := ∀ (B : Nat → Bool) (G0 : Array GenState) (e : Value) (s : Shared), Kp B G0 s → FrOk B s → X.xe e (muteB B s) → X.xe e s
def DeafC (CX : CXT) : Prop := ∀ (B : Nat → Bool) (outer : List Env) (H : Hp) (s : Shared) (E : XK) (e : Value) (s' : Shared), CX outer H s E e (muteB B s') → CX outer H s E e s'
theorem deaf_of {CX : CXT} (h : DeafC CX) {P : Program} {w : World} {K : PySem.W.Frag} {mg : Str → Option Value} {base : Heap} {N : List Str} {qual : Str} {scope : Scope} {f : Addr} {cd : Value} {A : Around} {outer : List Env} {s : Shared} {H : Hp} {E : XK} :
    Deaf (cxOf CX P w K mg base N qual scope f cd A outer s H E) := fun B G0 e s' K F x =>
  wpAny_mono (wpAny_simB K F x) (fun _ s'' q => h B _ _ _ _ _ _ q.2.2) fun _ s'' q => h B _ _ _ _ _ _ q.2.2
theorem deaf0 : DeafC CX0 := fun _ _ _ _ _ _ _ h => h.elim
theorem deafX {P : Program} {w : World} : DeafC (L2.CX P w) := fun B outer H s E e s' ⟨a, B', H', cls, d, h1, h2, h3, h4, h5, h6, h7, h8⟩ => ⟨a, B', H', cls, d, h1, h2, h3, h4, h5, h6, mute_bareB.mp h7, h8⟩
theorem deaf_xe {X : Cx} {W : WX} (h : X.xe = XE X W) : Deaf X := fun B G0 e s K F x => by
  rw [h] at x ⊢
  obtain ⟨a, B', sI, pins, σ, H, cls, d, h1, h2, h3, h4, h5, h6, h7, h8, h9⟩ := x
  exact ⟨a, B', sI, pins, σ, H, cls, d, h1, h2, h3, h4, h5, h6, h7, mute_bareB.mp h8, h9⟩

/-! ### the loop -/
/-- an expression whose value is a generator of a generator def -/
abbrev TGY (γ : Type) := L2.St → Hp → (γ → Hp → Prop) → Prop
def tCallY {γ : Type} (n : Nat) (st : List V → γ) (t : TA) : TGY γ := fun σ H R => t σ H fun vs H1 => vs.length = n ∧ R (st vs) H1
structure PGY {γ : Type} (X : Cx) (k : Nat) (e : Expr) (go : γ → Hp → YD γ → Prop) (t : TGY γ) : Prop where
  run : ∀ (pins : List (Addr × Obj)) (s : Shared) (σ : L2.St) (H : Hp) (R : γ → Hp → Prop), L2.Inv X pins σ H s → t σ H R → wpAny (model X.prog X.w) X.A (eval e X.env)
    (fun u s' => ∃ H1 sc g0, L2.Inv X pins σ H1 sc ∧ GMadeY X.prog X.w X.K X.mg X.base k X.stack go g0 sc u s' ∧ R g0 H1) X.xe s
section
variable {γ : Type} {X : Cx} {k : Nat} {f : Addr} {fd : FuncData} {ps : List Str} {go : γ → Hp → YD γ → Prop} {st : List V → γ} {x : Str} {p pos : Pos} {t : TA}
theorem pgy_call {e : Expr} {es : List Expr} (F : YFn X.prog X.w X.K X.mg X.base k f fd ps go st) (hr : Room k X.A) (hg : Gl X x) (hm : X.mg x = some (.ref f)) (hk : PySem.W.keepIn X.K (.ref f) = true) (hb : Binds X.K fd ps [])
    (ha : PA X (e :: es) t) (hdb : (x == ("__debug__" : Str)) = false := by decide) (he : starEach (e :: es) X.env = (false, eval e X.env) :: starEach es X.env := by rfl) (hpl : (backTo pos (starEach es X.env)).any (·.1) = false := by rfl) :
    PGY X k (.Call (.Name x p) (e :: es) [] pos) go (tCallY ps.length st t) := by
  refine ⟨fun pins s σ H R I h => ?_⟩
  refine wpAny_Call_Name_kw (ld_glob I hg hm ?_ hdb)
  refine PySem.W.callWith_K (h₀ := X.base) I.ok.mod.kin hk (thn (ha.run pos pins s σ H _ I h) fun us s1 ⟨vs, H1, I1, r, hl, q⟩ => ⟨I1.kIn, ?_⟩) he hpl
  have hl2 : (us ++ ([] : List Value)).length = ps.length := by rw [List.append_nil, ← r.length]; exact hl
  have hb2 := hb s1 us I1.kIn hl2
  rw [List.append_nil] at hb2
  refine wpAny_call (codeAny_mono (F.run X.A X.stack s1 H1 ⟨us, []⟩ us vs hr I1.env0 hb2 r hl) fun r' s' hq => ?_)
  cases r' with
  | error e => exact False.elim hq
  | ok fl =>
    cases fl with
    | ret u => exact ⟨H1, s1, _, I1, hq, q⟩
    | next => exact False.elim hq
    | brk => exact False.elim hq
    | cont => exact False.elim hq
def tForY (K : PySem.W.Frag) (go : γ → Hp → YD γ → Prop) (W0 : WX) (tgy : TGY γ) (g : TG) (tb : TS) : TS := fun D σ H => tgy σ H fun g0 H1 => ∃ W : γ → Nat → L2.St → Hp → Prop, (∃ m, W g0 m σ H1) ∧ ∀ g1 m σ H, W g1 m σ H →
  go g1 H ⟨fun x g2 H' => g x σ H' fun σ2 H2 => tb { D with nx := fun σ' H' => ∃ m', m' < m ∧ W g2 m' σ' H', ct := fun σ' H' => ∃ m', m' < m ∧ W g2 m' σ' H', bk := D.nx } σ2 H2, fun H' => D.nx σ H',
    fun cls d H' => PySem.W.subIn K cls (.type "StopIteration") = some false ∧ W0 cls d σ H'⟩
theorem rst_now {Y : YG γ} {n : Nat} {g0 : γ} {gs : GenState} {own ip : List (Addr × Obj)} {s : Shared} {H : Hp} {d : YD γ} (h : Rst Y (n + 1) g0 gs own) (wk : Woke Y.P Y.w Y.K Y.mg Y.base Y.A Y.outer own ip s H) (hg : Y.go g0 H d) :
    RunsNow (model Y.P Y.w) Y.A gs (YPhi Y n (cutS s Y.L) H ip d) s := by
  cases gs with
  | fresh c => exact h s H ip d wk hg
  | suspended k l c p fs cl => exact h s H ip d wk hg
  | running => exact h.elim
  | finished => exact h.elim
theorem yphi_mono {Y : YG γ} : ∀ {m n : Nat} {s : Shared} {H : Hp} {ip : List (Addr × Obj)} {d : YD γ} {e : End} {s' : Shared}, m ≤ n → YPhi Y n s H ip d e s' → YPhi Y m s H ip d e s' := by
  intro m
  induction m with
  | zero =>
    intro n s H ip d e s' _ h
    cases e with
    | ret r => cases r <;> cases n <;> exact h
    | susp v g l k c p fs =>
      cases n with
      | zero => exact h
      | succ n =>
        obtain ⟨h1, x, g2, H', own2, h2, h3, h4, h5, h6, _⟩ := h
        exact ⟨h1, x, g2, H', own2, h2, h3, h4, h5, h6, trivial⟩
  | succ m ih =>
    intro n s H ip d e s' hn h
    obtain ⟨n, rfl⟩ : ∃ j, n = j + 1 := ⟨n - 1, by omega⟩
    cases e with
    | ret r => cases r <;> exact h
    | susp v g l k c p fs =>
      obtain ⟨h1, x, g2, H', own2, h2, h3, h4, h5, h6, h7⟩ := h
      exact ⟨h1, x, g2, H', own2, h2, h3, h4, h5, h6, fun s H ip d wk hg => sg_imp (h7 s H ip d wk hg) fun e s' q => ih (by omega) q⟩
theorem rst_mono {Y : YG γ} {m n : Nat} {g : γ} {gs : GenState} {own : List (Addr × Obj)} (hn : m ≤ n) (h : Rst Y n g gs own) : Rst Y m g gs own := by
  cases m with
  | zero => exact trivial
  | succ m =>
    obtain ⟨n, rfl⟩ : ∃ j, n = j + 1 := ⟨n - 1, by omega⟩
    cases gs with
    | fresh c => exact fun s H ip d wk hg => sg_imp (h s H ip d wk hg) fun e s' q => yphi_mono (by omega) q
    | suspended k l c p fs cl => exact fun s H ip d wk hg => sg_imp (h s H ip d wk hg) fun e s' q => yphi_mono (by omega) q
    | running => exact h
    | finished => exact h
theorem ps_forY {tg iter : Expr} {body : List Stmt} {tgy : TGY γ} {g : TG} {tb : TS} {W0 : WX} (hp : PassesOwn (model X.prog X.w) X.A X.env X.xe) (hc : X.calm = true) (df : Deaf X) (tk : Takes X W0) (hr : Room (k + 3) X.A) (hi : PGY X k iter go tgy) (hg : PG X tg g) (hb : PSs X body tb)
    (hs : ∀ x, foldedSetIterable iter X.env x = pure x := by intro _; rfl) : PS X (.For tg iter body [] pos) (tForY X.K go W0 tgy g tb) := by
  refine ⟨fun pins s σ H D I h => ?_⟩
  refine wpAny_For (thn (hi.run pins s σ H _ I h) fun v s1 h1 => ?_) hs
  obtain ⟨H1, sc, g0, I1, ⟨a, L, gn, c, oa, oL, rfl, ha1, hL1, hLa, hoa, hgen, hoac, hoL, hoLc, hgs, os1, bare1, kp1, mk⟩, W, ⟨m0, w0⟩, turn⟩ := h1
  obtain ⟨Y, eP, ew, eK, emg, ebase, eouter, eA, eL, ego, rst⟩ := mk X.A.in1 ⟨hr.hd, by have := hr.dp; show X.A.depth + 3 * k + 5 < _; omega, by have := hr.un; show X.A.units + 1 + 16 * k + 200 < _; omega⟩ I1.ok.frames
  obtain ⟨YP, Yw, YK, Ymg, Ybase, YN, Yq, Ys, Yf, Ycd, YL, YA, Yo, Ygo⟩ := Y
  replace eP : X.prog = YP := eP.symm
  replace ew : X.w = Yw := ew.symm
  replace eK : X.K = YK := eK.symm
  replace emg : X.mg = Ymg := emg.symm
  replace ebase : X.base = Ybase := ebase.symm
  replace eouter : X.stack = Yo := eouter.symm
  replace eA : X.A.in1 = YA := eA.symm
  replace eL : L = YL := eL.symm
  replace ego : go = Ygo := ego.symm
  subst eP ew eK emg ebase eouter eA eL ego
  have I2 : L2.Inv X pins σ H1 s1 := I1.call' (ch := []) os1 (Un.kept kp1) (I1.hok.kept kp1) bare1 fun b z => by simp at z
  have szc : X.s_0.heap.objs.size ≤ L := Nat.le_trans I1.sz hL1
  have sza : X.s_0.heap.objs.size ≤ a := Nat.le_trans I1.sz ha1
  have hLl : X.env.locals < L := Nat.lt_of_lt_of_le I1.lt hL1
  have hLc : ∀ x c, X.env.cells.lookup x = some c → c < L := fun x c e => by
    obtain ⟨v, q⟩ := I1.cell x c e
    exact Nat.lt_of_lt_of_le q.lt hL1
  have hac : ∀ x c, X.env.cells.lookup x = some c → c < a := fun x c e => by
    obtain ⟨v, q⟩ := I1.cell x c e
    exact Nat.lt_of_lt_of_le q.lt ha1
  have hfs : ∀ b, L ≤ b ∨ a ≤ b → b ≠ X.env.locals ∧ b ∉ X.fs := fun b hb => by
    have : sc.heap.objs.size ≤ b := hb.elim (Nat.le_trans hL1) (Nat.le_trans ha1)
    exact ⟨Nat.ne_of_gt (Nat.lt_of_lt_of_le I1.lt this), I1.nofs this⟩
  have hfrs : ∀ b, b ≠ X.env.locals → b ∉ X.fs → b ∉ frs X.stack := fun b h1 h2 hm => (List.mem_cons.mp (I1.stkSub b hm)).elim h1 h2
  have pinlt : ∀ p ∈ X.pn ++ pins, p.1 < sc.heap.objs.size := fun p hp => Heap.lt_size (I1.pin p hp).1
  refine wpAny_pyIter_gen (hgen _ hoa) ?_
  -- the loop's word
  refine codeAny_forLoop_any (fun n s' => ∃ (g1 : γ) (gs : GenState) (own : List (Addr × Obj)) (σ' : L2.St) (H' : Hp), L2.Inv X (pins ++ (a, oa) :: own) σ' H' s' ∧ s'.gens[gn]? = some gs ∧ Rst (⟨X.prog, X.w, X.K, X.mg, X.base, YN, Yq, Ys, Yf, Ycd, L, X.A.in1, X.stack, go⟩ : YG γ) (n + 1) g1 gs own ∧ (∀ p ∈ own, L ≤ p.1 ∧ p.1 ≠ a ∧ ∀ q ∈ X.pn ++ pins, q.1 ≠ p.1) ∧ W g1 n σ' H') ?_ m0 ?_
  rotate_left
  · refine ⟨g0, .fresh c, [(L, oL)], σ, H1, I2.pins_of fun p hp => ?_, hgs, rst _, fun p hp => ?_, w0⟩
    · rcases List.mem_append.mp hp with hp | hp
      · exact I2.pin p (List.mem_append_right _ hp)
      · rcases List.mem_cons.mp hp with rfl | hp
        · exact ⟨hoa, I1.hok.fresh ha1, (hfs a (.inr (Nat.le_refl _))).1, (hfs a (.inr (Nat.le_refl _))).2, hoac⟩
        · rw [List.mem_singleton.mp hp]
          exact ⟨hoL, I1.hok.fresh hL1, (hfs L (.inl (Nat.le_refl _))).1, (hfs L (.inl (Nat.le_refl _))).2, hoLc⟩
    · rw [List.mem_singleton.mp hp]
      exact ⟨Nat.le_refl _, hLa, fun q hq e => absurd (pinlt q hq) (by rw [e]; exact Nat.not_lt.mpr hL1)⟩
  rintro n s3 ⟨g1, gs, own, σ3, H3, I3, hgs3, rst3, hown, w3⟩
  have hpa := I3.pin (a, oa) (List.mem_append_right _ (List.mem_append_right _ List.mem_cons_self))
  have I3p : L2.Inv X pins σ3 H3 s3 := I3.unpinned
  have gsz : gn < s3.gens.size := (Array.getElem?_eq_some_iff.mp hgs3).1
  -- woken
  have wk : Woke X.prog X.w X.K X.mg X.base X.A.in1 X.stack own (X.pn ++ (pins ++ [(a, oa)])) (s3.setGen gn .running) H3 := by
    have e0 := I3.env0
    refine ⟨⟨e0.frames, e0.mod, e0.bs, e0.bsz, e0.funs, e0.frf, e0.hok, allBare_setGen e0.bare rfl⟩, fun p hp => ?_, fun p hp => ?_⟩
    · have q := I3.pin p (List.mem_append_right _ (List.mem_append_right _ (List.mem_cons_of_mem _ hp)))
      exact ⟨q.1, q.2.1⟩
    · rcases List.mem_append.mp hp with z | z
      · have q := I3.pin p (List.mem_append_left _ z)
        exact ⟨q.1, q.2.1, hfrs _ q.2.2.1 q.2.2.2.1, q.2.2.2.2, fun r hr => (hown r hr).2.2 p (List.mem_append_left _ z)⟩
      · rcases List.mem_append.mp z with z | z
        · have q := I3.pin p (List.mem_append_right _ (List.mem_append_left _ z))
          exact ⟨q.1, q.2.1, hfrs _ q.2.2.1 q.2.2.2.1, q.2.2.2.2, fun r hr => (hown r hr).2.2 p (List.mem_append_right _ z)⟩
        · rw [List.mem_singleton.mp z]
          exact ⟨hpa.1, hpa.2.1, hfrs _ hpa.2.2.1 hpa.2.2.2.1, hpa.2.2.2.2, fun r hr => Ne.symm (hown r hr).2.1⟩
  have hip : ∀ p ∈ X.pn ++ pins, p ∈ X.pn ++ (pins ++ [(a, oa)]) := fun p hp => (List.mem_append.mp hp).elim (List.mem_append_left _) fun z => List.mem_append_right _ (List.mem_append_left _ z)
  have hpa2 : (a, oa) ∈ X.pn ++ (pins ++ [(a, oa)]) := List.mem_append_right _ (List.mem_append_right _ List.mem_cons_self)
  have now := rst_now rst3 wk (turn g1 n σ3 H3 w3)
  have I3r : L2.Inv X pins σ3 H3 (s3.setGen gn .running) := ⟨I3p.ok, I3p.os, allBare_setGen I3p.bare rfl, I3p.base, I3p.loc, I3p.cell, I3p.free, I3p.freeC, I3p.pin, I3p.hok, I3p.len⟩
  have aft : ∀ {s' : Shared} {H' : Hp} {gs' : GenState}, gs'.bare = true → After X.prog X.w X.stack (cutS (s3.setGen gn .running) L) H3 (X.pn ++ (pins ++ [(a, oa)])) s' H' → L2.Inv X (pins ++ [(a, oa)]) σ3 H' (s'.setGen gn gs') := fun {s' H' gs'} hb A => by
    have J : L2.Inv X (pins ++ [(a, oa)]) σ3 H' s' := inv_afterY (ip := X.pn ++ (pins ++ [(a, oa)])) (s := s3.setGen gn .running) (I3r.pins_of fun p hp => by
      rcases List.mem_append.mp hp with z | z
      · exact I3r.pin p (List.mem_append_right _ z)
      · rw [List.mem_singleton.mp z]
        exact hpa) szc hLl hLc (fun p hp => hp) A
    exact ⟨J.ok, J.os, allBare_setGen J.bare hb, J.base, J.loc, J.cell, J.free, J.freeC, J.pin, J.hok, J.len⟩
  refine wpAny_passesOwn hp (wpAny_mono (wpAny_gsz (n := gn + 1) gsz (next_genY (A := X.A) (Q := fun r s1 => gn + 1 ≤ s1.gens.size → match r with
      | none => ∃ H', L2.Inv X pins σ3 H' s1 ∧ D.nx σ3 H'
      | some u => ∃ x g2 H' gs2 own2, L2.Inv X (pins ++ (a, oa) :: own2) σ3 H' s1 ∧ RelV x u ∧ s1.gens[gn]? = some gs2 ∧ slp gs2 = true ∧ Rst (⟨X.prog, X.w, X.K, X.mg, X.base, YN, Yq, Ys, Yf, Ycd, L, X.A.in1, X.stack, go⟩ : YG γ) n g2 gs2 own2 ∧ (∀ p ∈ own2, L ≤ p.1 ∧ p.1 ≠ a ∧ ∀ q ∈ X.pn ++ pins, q.1 ≠ p.1) ∧
          g x σ3 H' fun σ2 H2 => tb { D with nx := fun σ' H' => ∃ m', m' < n ∧ W g2 m' σ' H', ct := fun σ' H' => ∃ m', m' < n ∧ W g2 m' σ' H', bk := D.nx } σ2 H2) (E := fun e s' => gn + 1 ≤ s'.gens.size → X.xe e s') hr.hd I3.nolimit (by have := hr.dp; omega) (hgen _ hpa.1) hgs3 now (fun e s1 hΦ => ?_))) (fun r s1 hq => ?_) fun e s1 hq => hq)
  · cases e with
    | ret r =>
      cases r with
      | error x =>
        have hx : CXY X.prog X.w X.stack H3 (cutS (s3.setGen gn .running) L) (X.pn ++ (pins ++ [(a, oa)])) (fun cls d H' => PySem.W.subIn X.K cls (.type "StopIteration") = some false ∧ W0 cls d σ3 H') x s1 := by cases n <;> exact hΦ
        have xe1 := xe_of_callY (X := X) (W := fun cls d σ H => PySem.W.subIn X.K cls (.type "StopIteration") = some false ∧ W0 cls d σ H) (ip := X.pn ++ (pins ++ [(a, oa)])) I3r szc hLl hLc hip (fun _ _ _ h => h) hx
        obtain ⟨a1, B1, H4, cls, d, rfl, fl, hok, ub, na, os4, ag4, hE4, hp4⟩ := hx
        have kin : X.K.In s1.heap := I1.ok.mod.kin.keeps fun b o eb => by
          refine fl.1 b o (ub.keep b o (cut_to (Nat.lt_of_lt_of_le (Heap.lt_size eb) (Nat.le_trans I1.ok.bsz szc)) (I3r.bs b o eb).1) (I3r.bs b o eb).2 fun hm => ?_)
          rcases List.mem_cons.mp (I3r.stkSub b hm) with z | z
          · have h1 := Heap.lt_size eb
            have h2 := Nat.le_trans I1.ok.bsz I1.ok.above
            rw [z] at h1
            exact absurd (Nat.lt_of_lt_of_le h1 h2) (Nat.lt_irrefl _)
          · exact I1.ok.nofr eb z
        refine ⟨hgen _ (fl.1 _ _ (hp4 _ hpa2).1), ?_, fun _ => ?_⟩
        · obtain ⟨oe, vs, he, hz, hd⟩ := fl.there
          have Lk := PySem.W.looks_subIn (M := model X.prog X.w) kin hE4.1
          intro A' Q' E' s2 hs2 hq2
          simp only [isInstance]
          refine wpAny_bind (wpAny_typeOf_ref (o := oe) (by rw [hs2]; exact he) ?_)
          rw [hz.1]
          exact Lk A' Q' E' s2 (fun b o z => by rw [hs2]; exact z) hq2
        · obtain ⟨a2, B2, sI, pins2, σ2, H2, cls2, d2, k1, k2, k3, k4, k5, k6, k7, k8, k9, k10⟩ := xe1
          exact tk _ _ ⟨a2, B2, sI, pins2, σ2, H2, cls2, d2, k1, k2, k3, k4, k5, k6, k7, allBare_setGen k8 rfl, k10⟩
      | ok f =>
        have hx : (f = .ret .none ∨ f = .next) ∧ ∃ H', After X.prog X.w X.stack (cutS (s3.setGen gn .running) L) H3 (X.pn ++ (pins ++ [(a, oa)])) s1 H' ∧ D.nx σ3 H' := by cases n <;> exact hΦ
        obtain ⟨hf, H4, A4, q4⟩ := hx
        refine ⟨hf, fun h' hk _ => ⟨H4, ?_, q4⟩⟩
        exact ((aft (gs' := .finished) rfl A4).unpinned).kept (t' := s1.toks) hk
    | susp v gd l kk cc pp fs =>
      have hx : (End.susp v gd l kk cc pp fs).quiet = true ∧ ∃ x g2 H' own2, RelV x v ∧ After X.prog X.w X.stack (cutS (s3.setGen gn .running) L) H3 (X.pn ++ (pins ++ [(a, oa)])) s1 H' ∧ OwnOk L own2 (X.pn ++ (pins ++ [(a, oa)])) s1 H' ∧ (∃ o, (L, o) ∈ own2) ∧ (g x σ3 H' fun σ2 H2 => tb { D with nx := fun σ' H' => ∃ m', m' < n ∧ W g2 m' σ' H', ct := fun σ' H' => ∃ m', m' < n ∧ W g2 m' σ' H', bk := D.nx } σ2 H2) ∧
          Rst (⟨X.prog, X.w, X.K, X.mg, X.base, YN, Yq, Ys, Yf, Ycd, L, X.A.in1, X.stack, go⟩ : YG γ) n g2 (End.susp v gd l kk cc pp fs).genState own2 := by
        cases n with
        | zero =>
          obtain ⟨h1, x, g2, H', own2, h2, h3, h4, h5, h6, _⟩ := hΦ
          exact ⟨h1, x, g2, H', own2, h2, h3, h4, h5, h6, trivial⟩
        | succ n =>
          obtain ⟨h1, x, g2, H', own2, h2, h3, h4, h5, h6, h7⟩ := hΦ
          exact ⟨h1, x, g2, H', own2, h2, h3, h4, h5, h6, h7⟩
      obtain ⟨hq, x, g2, H4, own2, rx, A4, O4, _, q4, r4⟩ := hx
      refine ⟨hq, fun hsz => ?_⟩
      have J := aft (End.bare_of_quiet hq) A4
      have hsz1 : gn < s1.gens.size := by
        have q : (s1.setGen gn (End.susp v gd l kk cc pp fs).genState).gens.size = s1.gens.size := setGen_size _ _ _
        omega
      refine ⟨x, g2, H4, _, own2, J.pins_of fun p hp => ?_, rx, setGen_at hsz1, rfl, r4, fun p hp => ?_, q4⟩
      · rcases List.mem_append.mp hp with z | z
        · exact J.pin p (List.mem_append_right _ (List.mem_append_left _ z))
        · rcases List.mem_cons.mp z with rfl | z
          · exact J.pin _ (List.mem_append_right _ (List.mem_append_right _ List.mem_cons_self))
          · obtain ⟨h1, h2, h3, h4, h5⟩ := O4 p z
            exact ⟨h1, h2, (hfs p.1 (.inl h3)).1, (hfs p.1 (.inl h3)).2, h4⟩
      · obtain ⟨_, _, h3, _, h5⟩ := O4 p hp
        exact ⟨h3, Ne.symm (h5 _ hpa2), fun q hq => h5 q (hip q hq)⟩
  · cases r with
    | none =>
      obtain ⟨H4, I4, q4⟩ := hq
      exact wpAny_execs_nil ⟨σ3, H4, I4, q4⟩
    | some u =>
      obtain ⟨x, g2, H4, gs2, own2, I4, rx, hgs4, hsl, r4, hown4, q4⟩ := hq
      have hoa4 := (I4.pin (a, oa) (List.mem_append_right _ (List.mem_append_right _ List.mem_cons_self))).1
      obtain ⟨oo, nm, qn, ho, hcl, hda, _⟩ := hgen _ hoa4
      refine go_of (s := s1) ho hcl hda (by decide) ?_
      have B1 : sleepers s1 gn = true := by
        unfold sleepers
        rw [hgs4]
        exact hsl
      -- the store, where the sleepers are deaf
      refine wpAny_passesOwn hp (wpAny_mono (wpAny_sim (hg.run _ (muteB (sleepers s1) s1) σ3 H4 x u _ (inv_mute.mpr I4) rx q4)) (fun _ s5 h5 => ?_) fun e s5 h5 => df _ _ _ _ h5.1 h5.2.1 h5.2.2)
      obtain ⟨K5, F5, σ5, H5, I5, q5⟩ := h5
      have I5 := inv_mute.mp I5
      have hgs5 : s5.gens[gn]? = some gs2 := by
        obtain ⟨z, z1, _, z3⟩ := K5 gn B1
        rw [hgs4] at z1
        cases z1
        exact z3
      have B5 : sleepers s5 gn = true := by
        unfold sleepers
        rw [hgs5]
        exact hsl
      refine wpAny_passesOwn hp (wpAny_mono (wpAny_sim (hb.run _ (muteB (sleepers s5) s5) σ5 H5 _ (inv_mute.mpr I5) q5)) (fun f s7 h7 => ?_) fun e s7 h7 => df _ _ _ _ h7.1 h7.2.1 h7.2.2)
      obtain ⟨K7, F7, q7⟩ := h7
      have hgs7 : s7.gens[gn]? = some gs2 := by
        obtain ⟨z, z1, _, z3⟩ := K7 gn B5
        rw [hgs5] at z1
        cases z1
        exact z3
      have again : ∀ {σ7 : L2.St} {H7 : Hp}, L2.Inv X (pins ++ (a, oa) :: own2) σ7 H7 s7 → (∃ m', m' < n ∧ W g2 m' σ7 H7) → ∃ m, m < n ∧ ∃ (g1 : γ) (gs : GenState) (own : List (Addr × Obj)) (σ' : L2.St) (H' : Hp), L2.Inv X (pins ++ (a, oa) :: own) σ' H' s7 ∧ s7.gens[gn]? = some gs ∧
          Rst (⟨X.prog, X.w, X.K, X.mg, X.base, YN, Yq, Ys, Yf, Ycd, L, X.A.in1, X.stack, go⟩ : YG γ) (m + 1) g1 gs own ∧ (∀ p ∈ own, L ≤ p.1 ∧ p.1 ≠ a ∧ ∀ q ∈ X.pn ++ pins, q.1 ≠ p.1) ∧ W g1 m σ' H' := fun {σ7 H7} I7 n7 => by
        obtain ⟨m', hm, w7⟩ := n7
        exact ⟨m', hm, g2, gs2, own2, σ7, H7, I7, hgs7, rst_mono hm r4, hown4, w7⟩
      cases f with
      | next => obtain ⟨σ7, H7, I7, n7⟩ := q7; exact again (inv_mute.mp I7) n7
      | cont => obtain ⟨σ7, H7, I7, n7⟩ := q7; exact again (inv_mute.mp I7) n7
      | brk => obtain ⟨σ7, H7, I7, q7⟩ := q7; exact ⟨σ7, H7, (inv_mute.mp I7).unpinned, q7⟩
      | ret v => obtain ⟨x7, σ7, H7, I7, r7, q7⟩ := q7; exact ⟨x7, σ7, H7, (inv_mute.mp I7).unpinned, r7, q7⟩
end
end XL
namespace XL
open PySem PySem.Spec PyProof.Rows L2 GenW
theorem deafN {X : Cx} : Deaf X.nox := fun _ _ _ _ _ _ h => h.elim
/-- a generator def of the text as it stands behind the top -/
theorem Fun.okY {γ : Type} {P : Program} {w : World} {K : PySem.W.Frag} {mg : Str → Option Value} {base : Heap} {x qual : Str} {st : Stmt} {f : Addr} {fd : FuncData} {N ps : List Str} {k : Nat} {go : γ → Hp → YD γ → Prop} {sv : List V → γ} (F : Fun K x qual st f fd) (S : GScope N ps (defScope st))
    (nc : ∀ y ∈ (defScope st).names, y.2 ≠ .cell)
    (hbody : ∀ (cdv : Value) (L : Addr) (A : Around) (outer : List Env) (vs : List V), Room k (A.deeper (envOfC qual (defScope st) L f cdv)) → vs.length = ps.length →
      ∃ t, YSs (⟨P, w, K, mg, base, N, qual, defScope st, f, cdv, L, A, outer, go⟩ : YG γ) (defBody st) t ∧ ∀ H d, go (sv vs) H d → t { nx := fun d _ H' => d.qd H', rt := fun d v H' => v = .non ∧ d.qd H' } d (start N vs) H) :
    YFn P w K mg base (k + 1) f fd ps go sv := by
  obtain ⟨oc, od, kV, doc, pm, an, cdv, ct, osl, rfl, lk, hcd⟩ := F.ex
  exact yfn_of lk hcd S nc fun L A outer vs hr hl => hbody cdv L A outer vs hr hl
end XL
set_option Elab.async false
set_option linter.all false
set_option maxRecDepth 100000
set_option maxHeartbeats 4000000
namespace K43
open PySem PySem.Spec PyProof.Rows L2 XL
def topS (i : Nat) : Stmt := PySem.Challenge.pw_drawnanew_k43_whole_lists.main.body.getD i (.Pass ⟨0, 0, 0, 0⟩)
abbrev s_is_name : Stmt := topS 9
theorem sc_is_name : FnScope ["thing", "sign"] ["thing"] (defScope s_is_name) := ⟨rfl, rfl, rfl, by decide +kernel, rfl, by decide +kernel, by decide +kernel⟩
abbrev s_is_number : Stmt := topS 10
theorem sc_is_number : FnScope ["thing", "low", "high"] ["thing", "low", "high"] (defScope s_is_number) := ⟨rfl, rfl, rfl, by decide +kernel, rfl, by decide +kernel, by decide +kernel⟩
abbrev s_is_part : Stmt := topS 14
theorem sc_is_part : FnScope ["part"] ["part"] (defScope s_is_part) := ⟨rfl, rfl, rfl, by decide +kernel, rfl, by decide +kernel, by decide +kernel⟩
abbrev s_check_form : Stmt := topS 15
theorem sc_check_form : FnScope ["parts", "waiting", "deepest", "part", "level", "at"] ["parts"] (defScope s_check_form) := ⟨rfl, rfl, rfl, by decide +kernel, rfl, by decide +kernel, by decide +kernel⟩
abbrev s_value_of : Stmt := topS 16
theorem sc_value_of : FnScope ["parts", "values", "first", "second"] ["parts", "values"] (defScope s_value_of) := ⟨rfl, rfl, rfl, by decide +kernel, rfl, by decide +kernel, by decide +kernel⟩
abbrev s_counted : Stmt := topS 19
theorem sc_counted : FnScope ["ranges", "count", "told", "size"] ["ranges"] (defScope s_counted) := ⟨rfl, rfl, rfl, by decide +kernel, rfl, by decide +kernel, by decide +kernel⟩
abbrev s_setting_at : Stmt := topS 20
theorem sc_setting_at : FnScope ["ranges", "number", "setting", "told", "size", "rest", "at"] ["ranges", "number"] (defScope s_setting_at) := ⟨rfl, rfl, rfl, by decide +kernel, rfl, by decide +kernel, by decide +kernel⟩
abbrev s_settings : Stmt := topS 21
theorem sc_settings : GScope ["ranges", "held", "count", "number"] ["ranges"] (defScope s_settings) := ⟨rfl, rfl, rfl, by decide +kernel, rfl, by decide +kernel, by decide +kernel⟩
abbrev s_Effects_init : Stmt := inClass (topS 23) 0
theorem sc_Effects_init : FnScope ["self"] ["self"] (defScope s_Effects_init) := ⟨rfl, rfl, rfl, by decide +kernel, rfl, by decide +kernel, by decide +kernel⟩
abbrev s_Effects_bring : Stmt := inClass (topS 23) 1
theorem sc_Effects_bring : FnScope ["self", "entries", "wanted", "owner", "word", "value", "seen", "stays", "goes", "entry", "pair", "log", "kept"] ["self", "entries"] (defScope s_Effects_bring) := ⟨rfl, rfl, rfl, by decide +kernel, rfl, by decide +kernel, by decide +kernel⟩
abbrev s_Effects_armed : Stmt := inClass (topS 23) 2
theorem sc_Effects_armed : FnScope ["self", "entry"] ["self"] (defScope s_Effects_armed) := ⟨rfl, rfl, rfl, by decide +kernel, rfl, by decide +kernel, by decide +kernel⟩
abbrev s_behind : Stmt := topS 24
theorem sc_behind : FnScope ["board", "entries", "owner", "word", "value", "armed", "rows", "seen", "pair"] ["board", "entries"] (defScope s_behind) := ⟨rfl, rfl, rfl, by decide +kernel, rfl, by decide +kernel, by decide +kernel⟩
abbrev s_parted : Stmt := topS 25
theorem sc_parted : FnScope ["form", "ranges", "names", "rows", "setting", "agreed", "first", "second", "name"] ["form", "ranges", "names"] (defScope s_parted) := ⟨rfl, rfl, rfl, by decide +kernel, rfl, by decide +kernel, by decide +kernel⟩
abbrev s_mixed : Stmt := topS 27
theorem sc_mixed : FnScope ["_law_number_here", "_law_turn", "_law_first", "_law_second"] ["_law_number_here", "_law_turn"] (defScope s_mixed) := ⟨rfl, rfl, rfl, by decide +kernel, rfl, by decide +kernel, by decide +kernel⟩
abbrev s_bag : Stmt := topS 28
theorem sc_bag : FnScope ["_law_script", "_law_cell", "_law_numbers", "_law_seed", "_law_at"] ["_law_script"] (defScope s_bag) := ⟨rfl, rfl, rfl, by decide +kernel, rfl, by decide +kernel, by decide +kernel⟩
abbrev s_pick : Stmt := topS 29
theorem sc_pick : FnScope ["_law_bag_here", "_law_many", "_law_turn", "_law_cell", "_law_worth"] ["_law_bag_here", "_law_many"] (defScope s_pick) := ⟨rfl, rfl, rfl, by decide +kernel, rfl, by decide +kernel, by decide +kernel⟩
abbrev s_choice : Stmt := topS 30
theorem sc_choice : FnScope ["_law_bag_here", "_law_things"] ["_law_bag_here", "_law_things"] (defScope s_choice) := ⟨rfl, rfl, rfl, by decide +kernel, rfl, by decide +kernel, by decide +kernel⟩
abbrev s_mingled : Stmt := topS 31
theorem sc_mingled : FnScope ["_law_bag_here", "_law_things", "_law_left", "_law_out", "_law_step"] ["_law_bag_here", "_law_things"] (defScope s_mingled) := ⟨rfl, rfl, rfl, by decide +kernel, rfl, by decide +kernel, by decide +kernel⟩
abbrev s_number : Stmt := topS 32
theorem sc_number : FnScope ["_law_thing"] ["_law_thing"] (defScope s_number) := ⟨rfl, rfl, rfl, by decide +kernel, rfl, by decide +kernel, by decide +kernel⟩
abbrev s_new_name : Stmt := topS 33
theorem sc_new_name : FnScope ["_law_bag_here", "_law_used", "_law_letters", "_law_told", "_law_near", "_law_at", "_law_tails", "_law_step", "_law_k", "_law_tail"] ["_law_bag_here", "_law_used"] (defScope s_new_name) := ⟨rfl, rfl, rfl, by decide +kernel, rfl, by decide +kernel, by decide +kernel⟩
abbrev s_form : Stmt := topS 34
theorem sc_form : FnScope ["_law_bag_here", "_law_readable", "_law_levels", "_law_way", "_law_first", "_law_second"] ["_law_bag_here", "_law_readable", "_law_levels"] (defScope s_form) := ⟨rfl, rfl, rfl, by decide +kernel, rfl, by decide +kernel, by decide +kernel⟩
abbrev s_value : Stmt := topS 35
theorem sc_value : FnScope ["_law_form_here", "_law_worths", "_law_word", "_law_first", "_law_second"] ["_law_form_here", "_law_worths"] (defScope s_value) := ⟨rfl, rfl, rfl, by decide +kernel, rfl, by decide +kernel, by decide +kernel⟩
abbrev s_law_settings : Stmt := topS 36
theorem sc_law_settings : FnScope ["_law_ranges_here", "_law_rows", "_law_told", "_law_size", "_law_longer", "_law_row", "_law_worth", "_law_more"] ["_law_ranges_here"] (defScope s_law_settings) := ⟨rfl, rfl, rfl, by decide +kernel, rfl, by decide +kernel, by decide +kernel⟩
abbrev s_same : Stmt := topS 37
theorem sc_same : FnScope ["_law_told", "_law_due", "_law_row", "_law_part"] ["_law_told", "_law_due"] (defScope s_same) := ⟨rfl, rfl, rfl, by decide +kernel, rfl, by decide +kernel, by decide +kernel⟩
abbrev s_ranges : Stmt := topS 38
theorem sc_ranges : FnScope ["_law_bag_here", "_law_limit", "_law_used", "_law_ranges_here", "_law_many", "_law_step", "_law_size"] ["_law_bag_here"] (defScope s_ranges) := ⟨rfl, rfl, rfl, by decide +kernel, rfl, by decide +kernel, by decide +kernel⟩
abbrev s_drawn_form : Stmt := topS 39
theorem sc_drawn_form : FnScope ["_law_bag_here", "_law_names", "_law_told", "_law_readable", "_law_form_here", "_law_way"] ["_law_bag_here", "_law_names"] (defScope s_drawn_form) := ⟨rfl, rfl, rfl, by decide +kernel, rfl, by decide +kernel, by decide +kernel⟩
abbrev s_needed : Stmt := topS 40
theorem sc_needed : FnScope ["_law_rows", "_law_values", "_law_ranges_here", "_law_out", "_law_told", "_law_size", "_law_first", "_law_at", "_law_row", "_law_others", "_law_other"] ["_law_rows", "_law_values", "_law_ranges_here"] (defScope s_needed) := ⟨rfl, rfl, rfl, by decide +kernel, rfl, by decide +kernel, by decide +kernel⟩
abbrev s_listed : Stmt := topS 41
theorem sc_listed : FnScope ["_law_bag_here", "_law_names", "_law_need", "_law_way", "_law_rest", "_law_some", "_law_told"] ["_law_bag_here", "_law_names", "_law_need"] (defScope s_listed) := ⟨rfl, rfl, rfl, by decide +kernel, rfl, by decide +kernel, by decide +kernel⟩
abbrev s_first_pair : Stmt := topS 42
theorem sc_first_pair : FnScope ["_law_rows", "_law_values", "_law_keys", "_law_first", "_law_second"] ["_law_rows", "_law_values", "_law_keys"] (defScope s_first_pair) := ⟨rfl, rfl, rfl, by decide +kernel, rfl, by decide +kernel, by decide +kernel⟩
abbrev s_pair_told : Stmt := topS 43
theorem sc_pair_told : FnScope ["_law_told", "_law_rows", "_law_pair", "_law_at", "_law_setting", "_law_worth"] ["_law_told", "_law_rows", "_law_pair"] (defScope s_pair_told) := ⟨rfl, rfl, rfl, by decide +kernel, rfl, by decide +kernel, by decide +kernel⟩
abbrev s_too_many : Stmt := topS 44
theorem sc_too_many : FnScope ["_law_bag_here", "_law_form_here", "_law_ranges_here", "_law_listed_here", "_law_more", "_law_told", "_law_size", "_law_used", "_law_many", "_law_step", "error"] ["_law_bag_here", "_law_form_here", "_law_ranges_here", "_law_listed_here"] (defScope s_too_many) := ⟨rfl, rfl, rfl, by decide +kernel, rfl, by decide +kernel, by decide +kernel⟩
abbrev s_along : Stmt := topS 45
theorem sc_along : FnScope ["_law_board", "_law_owner", "_law_word", "_law_steps", "_law_kept", "_law_value_here", "_law_seen", "_law_entries", "_law_due"] ["_law_board", "_law_owner", "_law_word", "_law_steps"] (defScope s_along) := ⟨rfl, rfl, rfl, by decide +kernel, rfl, by decide +kernel, by decide +kernel⟩
abbrev s_law : Stmt := topS 46
theorem sc_law : FnScope ["_law_script", "_law_bag_here", "_law_ranges_here", "_law_told", "_law_names", "_law_form_here", "_law_rows", "_law_values", "_law_need", "_law_listed_here", "_law_keys", "_law_pair", "_law_given", "_law_word", "_law_owner", "_law_steps", "_law_step", "_law_at", "_law_board", "_law_entries", "_law_size", "_law_row"] ["_law_script"] (defScope s_law) := ⟨rfl, rfl, rfl, by decide +kernel, rfl, by decide +kernel, by decide +kernel⟩
abbrev s_TooMany_init : Stmt := inClass (topS 5) 0
/-- what the top leaves -/
structure Top (K : PySem.W.Frag) (mg : Str → Option Value) (W : World) where
  m_abs : mg "abs" = none
  m_all : mg "all" = none
  m_bool : mg "bool" = none
  m_dict : mg "dict" = none
  m_enumerate : mg "enumerate" = none
  m_int : mg "int" = none
  m_isinstance : mg "isinstance" = none
  m_len : mg "len" = none
  m_list : mg "list" = none
  m_range : mg "range" = none
  m_str : mg "str" = none
  m_tuple : mg "tuple" = none
  v_LETTERS : ∃ t, mg "LETTERS" = some (.str "abcdefghijklmnopqrstuvwxyz" t)
  v_MOST_LEVELS : ∃ t, mg "MOST_LEVELS" = some (.int 5 t)
  v_MOST_SETTINGS : ∃ t, mg "MOST_SETTINGS" = some (.int 256 t)
  a_is_name : Addr
  d_is_name : FuncData
  F_is_name : Fun K "is_name" "is_name" s_is_name a_is_name d_is_name
  b_is_name : Binds K d_is_name ["thing"] []
  g_is_name : mg "is_name" = some (.ref a_is_name)
  a_is_number : Addr
  d_is_number : FuncData
  F_is_number : Fun K "is_number" "is_number" s_is_number a_is_number d_is_number
  b_is_number : Binds K d_is_number ["thing", "low", "high"] []
  g_is_number : mg "is_number" = some (.ref a_is_number)
  a_is_part : Addr
  d_is_part : FuncData
  F_is_part : Fun K "is_part" "is_part" s_is_part a_is_part d_is_part
  b_is_part : Binds K d_is_part ["part"] []
  g_is_part : mg "is_part" = some (.ref a_is_part)
  a_check_form : Addr
  d_check_form : FuncData
  F_check_form : Fun K "check_form" "check_form" s_check_form a_check_form d_check_form
  b_check_form : Binds K d_check_form ["parts"] []
  g_check_form : mg "check_form" = some (.ref a_check_form)
  a_value_of : Addr
  d_value_of : FuncData
  F_value_of : Fun K "value_of" "value_of" s_value_of a_value_of d_value_of
  b_value_of : Binds K d_value_of ["parts", "values"] []
  g_value_of : mg "value_of" = some (.ref a_value_of)
  a_counted : Addr
  d_counted : FuncData
  F_counted : Fun K "counted" "counted" s_counted a_counted d_counted
  b_counted : Binds K d_counted ["ranges"] []
  g_counted : mg "counted" = some (.ref a_counted)
  a_setting_at : Addr
  d_setting_at : FuncData
  F_setting_at : Fun K "setting_at" "setting_at" s_setting_at a_setting_at d_setting_at
  b_setting_at : Binds K d_setting_at ["ranges", "number"] []
  g_setting_at : mg "setting_at" = some (.ref a_setting_at)
  a_settings : Addr
  d_settings : FuncData
  F_settings : Fun K "settings" "settings" s_settings a_settings d_settings
  b_settings : Binds K d_settings ["ranges"] []
  g_settings : mg "settings" = some (.ref a_settings)
  a_Effects_init : Addr
  d_Effects_init : FuncData
  F_Effects_init : Fun K "__init__" "Effects.__init__" s_Effects_init a_Effects_init d_Effects_init
  b_Effects_init : Binds K d_Effects_init ["self"] []
  a_Effects_bring : Addr
  d_Effects_bring : FuncData
  F_Effects_bring : Fun K "bring" "Effects.bring" s_Effects_bring a_Effects_bring d_Effects_bring
  b_Effects_bring : Binds K d_Effects_bring ["self", "entries"] []
  a_Effects_armed : Addr
  d_Effects_armed : FuncData
  F_Effects_armed : Fun K "armed" "Effects.armed" s_Effects_armed a_Effects_armed d_Effects_armed
  b_Effects_armed : Binds K d_Effects_armed ["self"] []
  a_behind : Addr
  d_behind : FuncData
  F_behind : Fun K "behind" "behind" s_behind a_behind d_behind
  b_behind : Binds K d_behind ["board", "entries"] []
  g_behind : mg "behind" = some (.ref a_behind)
  a_parted : Addr
  d_parted : FuncData
  F_parted : Fun K "parted" "parted" s_parted a_parted d_parted
  b_parted : Binds K d_parted ["form", "ranges", "names"] []
  g_parted : mg "parted" = some (.ref a_parted)
  a_mixed : Addr
  d_mixed : FuncData
  F_mixed : Fun K "_law_mixed" "_law_mixed" s_mixed a_mixed d_mixed
  b_mixed : Binds K d_mixed ["_law_number_here", "_law_turn"] []
  g_mixed : mg "_law_mixed" = some (.ref a_mixed)
  a_bag : Addr
  d_bag : FuncData
  F_bag : Fun K "_law_bag" "_law_bag" s_bag a_bag d_bag
  b_bag : Binds K d_bag ["_law_script"] []
  g_bag : mg "_law_bag" = some (.ref a_bag)
  a_pick : Addr
  d_pick : FuncData
  F_pick : Fun K "_law_pick" "_law_pick" s_pick a_pick d_pick
  b_pick : Binds K d_pick ["_law_bag_here", "_law_many"] []
  g_pick : mg "_law_pick" = some (.ref a_pick)
  a_choice : Addr
  d_choice : FuncData
  F_choice : Fun K "_law_choice" "_law_choice" s_choice a_choice d_choice
  b_choice : Binds K d_choice ["_law_bag_here", "_law_things"] []
  g_choice : mg "_law_choice" = some (.ref a_choice)
  a_mingled : Addr
  d_mingled : FuncData
  F_mingled : Fun K "_law_mingled" "_law_mingled" s_mingled a_mingled d_mingled
  b_mingled : Binds K d_mingled ["_law_bag_here", "_law_things"] []
  g_mingled : mg "_law_mingled" = some (.ref a_mingled)
  a_number : Addr
  d_number : FuncData
  F_number : Fun K "_law_number" "_law_number" s_number a_number d_number
  b_number : Binds K d_number ["_law_thing"] []
  g_number : mg "_law_number" = some (.ref a_number)
  a_new_name : Addr
  d_new_name : FuncData
  F_new_name : Fun K "_law_new_name" "_law_new_name" s_new_name a_new_name d_new_name
  b_new_name : Binds K d_new_name ["_law_bag_here", "_law_used"] []
  g_new_name : mg "_law_new_name" = some (.ref a_new_name)
  a_form : Addr
  d_form : FuncData
  F_form : Fun K "_law_form" "_law_form" s_form a_form d_form
  b_form : Binds K d_form ["_law_bag_here", "_law_readable", "_law_levels"] []
  g_form : mg "_law_form" = some (.ref a_form)
  a_value : Addr
  d_value : FuncData
  F_value : Fun K "_law_value" "_law_value" s_value a_value d_value
  b_value : Binds K d_value ["_law_form_here", "_law_worths"] []
  g_value : mg "_law_value" = some (.ref a_value)
  a_law_settings : Addr
  d_law_settings : FuncData
  F_law_settings : Fun K "_law_settings" "_law_settings" s_law_settings a_law_settings d_law_settings
  b_law_settings : Binds K d_law_settings ["_law_ranges_here"] []
  g_law_settings : mg "_law_settings" = some (.ref a_law_settings)
  a_same : Addr
  d_same : FuncData
  F_same : Fun K "_law_same" "_law_same" s_same a_same d_same
  b_same : Binds K d_same ["_law_told", "_law_due"] []
  g_same : mg "_law_same" = some (.ref a_same)
  a_ranges : Addr
  d_ranges : FuncData
  F_ranges : Fun K "_law_ranges" "_law_ranges" s_ranges a_ranges d_ranges
  b_ranges : Binds K d_ranges ["_law_bag_here"] []
  g_ranges : mg "_law_ranges" = some (.ref a_ranges)
  a_drawn_form : Addr
  d_drawn_form : FuncData
  F_drawn_form : Fun K "_law_drawn_form" "_law_drawn_form" s_drawn_form a_drawn_form d_drawn_form
  b_drawn_form : Binds K d_drawn_form ["_law_bag_here", "_law_names"] []
  g_drawn_form : mg "_law_drawn_form" = some (.ref a_drawn_form)
  a_needed : Addr
  d_needed : FuncData
  F_needed : Fun K "_law_needed" "_law_needed" s_needed a_needed d_needed
  b_needed : Binds K d_needed ["_law_rows", "_law_values", "_law_ranges_here"] []
  g_needed : mg "_law_needed" = some (.ref a_needed)
  a_listed : Addr
  d_listed : FuncData
  F_listed : Fun K "_law_listed" "_law_listed" s_listed a_listed d_listed
  b_listed : Binds K d_listed ["_law_bag_here", "_law_names", "_law_need"] []
  g_listed : mg "_law_listed" = some (.ref a_listed)
  a_first_pair : Addr
  d_first_pair : FuncData
  F_first_pair : Fun K "_law_first_pair" "_law_first_pair" s_first_pair a_first_pair d_first_pair
  b_first_pair : Binds K d_first_pair ["_law_rows", "_law_values", "_law_keys"] []
  g_first_pair : mg "_law_first_pair" = some (.ref a_first_pair)
  a_pair_told : Addr
  d_pair_told : FuncData
  F_pair_told : Fun K "_law_pair_told" "_law_pair_told" s_pair_told a_pair_told d_pair_told
  b_pair_told : Binds K d_pair_told ["_law_told", "_law_rows", "_law_pair"] []
  g_pair_told : mg "_law_pair_told" = some (.ref a_pair_told)
  a_too_many : Addr
  d_too_many : FuncData
  F_too_many : Fun K "_law_too_many" "_law_too_many" s_too_many a_too_many d_too_many
  b_too_many : Binds K d_too_many ["_law_bag_here", "_law_form_here", "_law_ranges_here", "_law_listed_here"] []
  g_too_many : mg "_law_too_many" = some (.ref a_too_many)
  a_along : Addr
  d_along : FuncData
  F_along : Fun K "_law_along" "_law_along" s_along a_along d_along
  b_along : Binds K d_along ["_law_board", "_law_owner", "_law_word", "_law_steps"] []
  g_along : mg "_law_along" = some (.ref a_along)
  a_law : Addr
  d_law : FuncData
  F_law : Fun K "law" "law" s_law a_law d_law
  b_law : Binds K d_law ["_law_script"] []
  g_law : mg "law" = some (.ref a_law)
  D_COUNTS : Addr
  e_COUNTS : Array DictEntry
  n_COUNTS : Nat
  g_COUNTS : mg "COUNTS" = some (.ref D_COUNTS)
  l_COUNTS : K.lookup D_COUNTS = some ⟨.type "dict", none, .dict e_COUNTS n_COUNTS, #[]⟩
  q_COUNTS : PySem.W.KeysLit W.params e_COUNTS.toList
  w_COUNTS : (D_COUNTS == sysModules) = false
  k_COUNTS_0 : ∃ t, PySem.W.nsIn K D_COUNTS "is" = some (some (.int 2 t))
  k_COUNTS_1 : ∃ t, PySem.W.nsIn K D_COUNTS "get" = some (some (.int 2 t))
  k_COUNTS_2 : ∃ t, PySem.W.nsIn K D_COUNTS "sum" = some (some (.int 3 t))
  k_COUNTS_3 : ∃ t, PySem.W.nsIn K D_COUNTS "same" = some (some (.int 3 t))
  k_COUNTS_4 : ∃ t, PySem.W.nsIn K D_COUNTS "pick" = some (some (.int 4 t))
  C_Effects : Addr
  g_Effects : mg "Effects" = some (.ref C_Effects)
  cl_Effects : Cls K C_Effects
  na_Effects_held : NoAttr K C_Effects "held"
  mk_Effects : Mk K C_Effects a_Effects_init
  me_Effects_bring : Meth K C_Effects "bring" a_Effects_bring
  me_Effects_armed : Meth K C_Effects "armed" a_Effects_armed
  x_file : Str
  C_ScreenError : Addr
  g_ScreenError : mg "ScreenError" = some (.ref C_ScreenError)
  C_NoName : Addr
  g_NoName : mg "NoName" = some (.ref C_NoName)
  C_TooMany : Addr
  i_TooMany : Addr
  g_TooMany : mg "TooMany" = some (.ref C_TooMany)
  x_TooMany : ∀ P : Program, PySem.XExc.PF P x_file → PySem.XExc.ExTxt P K mg "TooMany" "count" "too many: " C_TooMany i_TooMany
  xc_TooMany : ExcC K C_TooMany
  xf_TooMany : XfC K C_TooMany
  ki_TooMany_NoName : PySem.W.kitOne K (.ref C_TooMany) (.ref C_NoName) = some false
  ky_TooMany_ScreenError : PySem.W.kitOne K (.ref C_TooMany) (.ref C_ScreenError) = some true
  em_TooMany_TooMany : PySem.W.exmOne K (.ref C_TooMany) (.ref C_TooMany) = some true
  ns_TooMany : PySem.W.subIn K (.ref C_TooMany) (.type "StopIteration") = some false
/-! ### the bag -/
structure Bag (G : Hp) (o : HO) : Prop where
  ex : ∃ (n : Addr) (ns : List Int) (i g t s : Int), o = .lst [.ref n, .int i, .int g, .int t, .int s] ∧ G n = some (.lst (ns.map V.int)) ∧ 0 ≤ i ∧ 0 ≤ g
theorem Bag.same {G G' : Hp} {o : HO} (e : Same G G') (b : Bag G o) : Bag G' o := by
  obtain ⟨n, ns, i, g, t, s, h1, h2, h3⟩ := b.ex
  exact ⟨n, ns, i, g, t, s, h1, e _ _ h2, h3⟩

section
variable {P : Program} {w : World} {K : PySem.W.Frag} {mg : Str → Option Value} {base : Heap}
def spMixed : Sp := fun vs H Q _ => ∃ n t : Int, vs = [.int n, .int t] ∧ ∀ r : Int, 0 ≤ r → r < 2147483587 → Q (.int r) H
theorem ok_mixed (T : Top K mg w) {k : Nat} : FnOk P w K mg base CX0 (k + 1) T.a_mixed T.d_mixed ["_law_number_here", "_law_turn"] spMixed := by
  refine T.F_mixed.ok sc_mixed (fun vs H Q E h => ?_) (fun cdv A outer s H vs Q E hr h => ?_)
  · obtain ⟨n, t, rfl, _⟩ := h
    rfl
  · obtain ⟨n, t, rfl, q⟩ := h
    refine ⟨_, (pss_cons (ps_set (i := 2) sc_mixed.nd rfl (.inl rfl) (pe_op op_modY (pe_callTy cr_int (by rfl) T.m_int (by decide +kernel) (pa_cons (pe_op op_addY (pe_op op_mulY (pe_op op_addY (xv 0) pe_int) pe_int) (pe_op op_mulY (pe_op op_addY (xv 1) pe_int) pe_int)) pa_nil)) pe_int))
      (pss_cons (ps_set (i := 3) sc_mixed.nd rfl (.inl rfl) (pe_op op_modY (pe_callTy cr_int (by rfl) T.m_int (by decide +kernel) (pa_cons (pe_op op_addY (pe_op op_addY (pe_op op_mulY (xv 2) (xv 2)) (pe_op op_mulY (xv 2) pe_int)) (pe_op op_mulY (pe_op op_addY (xv 1) pe_int) pe_int)) pa_nil)) pe_int))
      (pss_one (ps_ret (pe_op op_modY (pe_callTy cr_int (by rfl) T.m_int (by decide +kernel) (pa_cons (pe_op op_addY (pe_op op_addY (pe_op op_divY (xv 3) pe_int) (pe_op op_mulY (xv 3) pe_int)) (xv 1)) pa_nil)) pe_int))))), ?_⟩
    refine ⟨.inr ⟨by decide, by decide⟩, .inr ⟨by decide, by decide⟩, by decide, fun f _ f0 f1 => ?_⟩
    refine ⟨.inl ⟨by omega, by omega⟩, .inr ⟨by decide, by decide⟩, .inr ⟨by decide, by decide⟩, by decide, fun g _ g0 g1 => ?_⟩
    refine ⟨⟨by decide, by decide⟩, fun d _ _ => ⟨.inr ⟨by decide, by decide⟩, by decide, fun r _ r0 r1 => ?_⟩⟩
    exact q r r0 r1

def spPick : Sp := fun vs H Q _ => ∃ (G : Hp) (M : List (Addr × HO)) (b : Addr) (o : HO) (n : Int), vs = [.ref b, .int n] ∧ Sep G ((b, o) :: M) H ∧ Bag G o ∧ 0 < n ∧ n < 1073741824 ∧
  ∀ (r : Int) (o' : HO) (H' : Hp), 0 ≤ r → r < n → Bag G o' → Sep G ((b, o') :: M) H' → Q (.int r) H'
theorem ok_pick (T : Top K mg w) {k : Nat} (G_mixed : FnOk P w K mg base CX0 (k + 1) T.a_mixed T.d_mixed ["_law_number_here", "_law_turn"] spMixed) :
    FnOk P w K mg base CX0 (k + 2) T.a_pick T.d_pick ["_law_bag_here", "_law_many"] spPick := by
  refine T.F_pick.ok sc_pick (fun vs H Q E h => ?_) (fun cdv A outer s H vs Q E hr h => ?_)
  · obtain ⟨G, M, b, o, n, rfl, _⟩ := h
    rfl
  · obtain ⟨G, M, b, o, n, rfl, S, B, n0, n1, q⟩ := h
    obtain ⟨N, ns, i, g, t, z, rfl, hN, i0, g0⟩ := B.ex
    refine ⟨_, (pss_cons (ps_set (i := 2) sc_pick.nd rfl (.inl rfl) (pe_ix (ix_k K) (xv 0) pe_int (fun _ _ => rfl)))
      (pss_cons (ps_asg (pe_op op_addY (xv 2) pe_int) (pg_sub (xv 0) pe_int set_list))
      (xss_cut (xs_if (PW.pt (xw_and (xt_cmp (op_eqLK K hr.u190) (pe_ix (ix_k K) (xv 0) pe_int (fun _ _ => rfl)) pe_int (nomark _)) (pw_and1 (xt_cmp op_ltY (pe_ix (ix_k K) (xv 0) pe_int (fun _ _ => rfl)) (pe_callB (cr_lenK K) (by rfl) T.m_len (by decide +kernel) (pa_cons (pe_ix (ix_k K) (xv 0) pe_int (fun _ _ => rfl)) pa_nil)) (nomark _)))))
      (pss_cons (ps_set (i := 3) sc_pick.nd rfl (.inl rfl) (pe_ix (ix_k K) (pe_ix (ix_k K) (xv 0) pe_int (fun _ _ => rfl)) (pe_ix (ix_k K) (xv 0) pe_int (fun _ _ => rfl)) (fun _ _ => rfl)))
      (pss_cons (ps_asg (pe_op op_addY (pe_ix (ix_k K) (xv 0) pe_int (fun _ _ => rfl)) pe_int) (pg_sub (xv 0) pe_int set_list))
      (pss_cons (xs_if (xt_cmp op_ltY (pe_callB cr_abs (by rfl) T.m_abs (by decide +kernel) (pa_cons (xv 3) pa_nil)) (pe_op op_powY pe_int pe_int) (nomark _))
      (pss_one (ps_ret (pe_op op_modY (pe_callTy cr_int (by rfl) T.m_int (by decide +kernel) (pa_cons (pe_call G_mixed (hr.mono (by omega)) (by rfl) T.g_mixed T.F_mixed.kp T.b_mixed .nil pass0 (pa_cons (pe_op op_addY (pe_op op_mulY pe_int (pe_callB cr_abs (by rfl) T.m_abs (by decide +kernel) (pa_cons (xv 3) pa_nil))) (pe_cmpR op_ltY (xv 3) pe_int (nomark _))) (pa_cons (xv 2) pa_nil))) pa_nil)) (xv 1))))
      pss_nil)
      (pss_one (ps_asg (pe_callB cr_abs (by rfl) T.m_abs (by decide +kernel) (pa_cons (xv 3) pa_nil)) (pg_sub (xv 0) pe_int set_list))))))
      pss_nil)
      (pss_cons (xs_if (xt_cmp (op_eqLK K hr.u190) (pe_ix (ix_k K) (xv 0) pe_int (fun _ _ => rfl)) pe_int (nomark _))
      (pss_one (ps_ret (pe_op op_modY (pe_callTy cr_int (by rfl) T.m_int (by decide +kernel) (pa_cons (pe_call G_mixed (hr.mono (by omega)) (by rfl) T.g_mixed T.F_mixed.kp T.b_mixed .nil pass0 (pa_cons (pe_ix (ix_k K) (xv 0) pe_int (fun _ _ => rfl)) (pa_cons (xv 2) pa_nil))) pa_nil)) (xv 1))))
      pss_nil)
      (pss_cons (ps_set (i := 4) sc_pick.nd rfl (.inl rfl) (pe_op op_modY (pe_callTy cr_int (by rfl) T.m_int (by decide +kernel) (pa_cons (pe_ix (ix_k K) (xv 0) pe_int (fun _ _ => rfl)) pa_nil)) (xv 1)))
      (pss_cons (ps_asg (pe_op op_divY (pe_ix (ix_k K) (xv 0) pe_int (fun _ _ => rfl)) (xv 1)) (pg_sub (xv 0) pe_int set_list))
      (pss_one (ps_ret (xv 4))))))))), ?_⟩
    -- the turn
    refine ⟨_, _, .inl (SqL.of S.hd), rfl, b, _, _, 3, rfl, rfl, S.hd, rfl, ?_⟩
    have S1 := S.set (o' := .lst [.ref N, .int i, .int g, .int (t + 1), .int z])
    have fin : ∀ (j : Int) (g' : Int) (H2 : Hp), 0 ≤ j → 0 ≤ g' → Sep G ((b, .lst [.ref N, .int j, .int g', .int (t + 1), .int z]) :: M) H2 → (g' = 0 → ∀ r : Int, 0 ≤ r → r < n → Q (.int r) H2) ∧
        (∀ (r d : Int), 0 ≤ r → r < n → 0 ≤ d → Q (.int r) (upd H2 b (.lst [.ref N, .int j, .int d, .int (t + 1), .int z]))) := fun j g' H2 j0 h0 S2 =>
      ⟨fun _ r r0 r1 => q r _ _ r0 r1 ⟨N, ns, j, g', t + 1, z, rfl, hN, j0, h0⟩ S2, fun r d r0 r1 d0 => q r _ _ r0 r1 ⟨N, ns, j, d, t + 1, z, rfl, hN, j0, d0⟩ S2.set⟩
    -- the rest, from a bag on
    refine ⟨fun σ H2 => ∃ (y3 y4 : Option V) (j g' : Int), σ = [some (.ref b), some (.int n), some (.int t), y3, y4] ∧ 0 ≤ j ∧ 0 ≤ g' ∧ Sep G ((b, .lst [.ref N, .int j, .int g', .int (t + 1), .int z]) :: M) H2, ?_, fun σ H2 h => ?_⟩
    · have go : ∃ (y3 y4 : Option V) (j g' : Int), ([some (.ref b), some (.int n), some (.int t), none, none] : List (Option V)) = [some (.ref b), some (.int n), some (.int t), y3, y4] ∧ 0 ≤ j ∧ 0 ≤ g' ∧ Sep G ((b, .lst [.ref N, .int j, .int g', .int (t + 1), .int z]) :: M) _ := ⟨_, _, i, g, rfl, i0, g0, S1⟩
      refine ⟨_, _, .inl (SqL.of S1.hd), rfl, fun e => ⟨_, _, .inl (SqL.of S1.hd), rfl, _, _, .inl (SqL.of S1.hd), rfl, _, .inl (SqL.of (S1.st hN)), fun e => ?_, fun e => go⟩, fun e => ⟨ff, fun _ => go⟩⟩
      have hi : i < (ns.map V.int).length := of_decide_eq_true e
      obtain ⟨v, hv, hm⟩ := atI_in i0 hi
      obtain ⟨c, _, rfl⟩ := List.mem_map.mp hm
      refine ⟨_, _, .inl (SqL.of S1.hd), rfl, _, _, .inl (SqL.of S1.hd), rfl, _, _, .inl (SqL.of (S1.st hN)), hv, ?_⟩
      refine ⟨_, _, .inl (SqL.of S1.hd), rfl, b, _, _, 1, rfl, rfl, S1.hd, rfl, ?_⟩
      have S2 := S1.set (o' := .lst [.ref N, .int (i + 1), .int g, .int (t + 1), .int z])
      refine ⟨⟨by decide, by decide, by decide⟩, fun p _ => ⟨fun e => ?_, fun e => ?_⟩⟩
      · refine ⟨.inl ⟨by decide, by decide⟩, _, _, rfl, fun m _ _ => ⟨n0, fun r _ r0 r1 => ?_⟩⟩
        exact q r _ _ r0 r1 ⟨N, ns, i + 1, g, t + 1, z, rfl, hN, by omega, g0⟩ S2
      · refine ⟨b, _, _, 2, rfl, rfl, S2.hd, rfl, ?_⟩
        exact ⟨_, _, i + 1, c.natAbs, rfl, by omega, by omega, S2.set⟩
    · obtain ⟨y3, y4, j, g', rfl, j0, h0, S2⟩ := h
      obtain ⟨f1, f2⟩ := fin j g' H2 j0 h0 S2
      refine ⟨_, _, .inl (SqL.of S2.hd), rfl, fun e => ?_, fun e => ?_⟩
      · refine ⟨_, _, .inl (SqL.of S2.hd), rfl, _, _, rfl, fun m _ _ => ⟨n0, fun r _ r0 r1 => ?_⟩⟩
        exact f1 (of_decide_eq_true e) r r0 r1
      · refine ⟨_, _, .inl (SqL.of S2.hd), rfl, n0, fun r _ r0 r1 => ?_⟩
        refine ⟨_, _, .inl (SqL.of S2.hd), rfl, ⟨n0, n1⟩, fun d _ d0 => ⟨b, _, _, 2, rfl, rfl, S2.hd, rfl, ?_⟩⟩
        exact f2 r d r0 r1 (d0 h0)

def spBag (K : PySem.W.Frag) : Sp := fun vs H Q _ => ∃ (G : Hp) (M : List (Addr × HO)) (a : Addr) (ns : List Int), vs = [.ref a] ∧ Sep G M H ∧ SqL K G a (ns.map V.int) ∧ ns.length ≤ 63 ∧
  ∀ (b : Addr) (o : HO) (G' H' : Hp), Same G G' → Bag G' o → Sep G' ((b, o) :: M) H' → Q (.ref b) H'
theorem ok_bag (T : Top K mg w) {k : Nat} : FnOk P w K mg base CX0 (k + 1) T.a_bag T.d_bag ["_law_script"] (spBag K) := by
  refine T.F_bag.ok sc_bag (fun vs H Q E h => ?_) (fun cdv A outer s H vs Q E hr h => ?_)
  · obtain ⟨G, M, a, ns, rfl, _⟩ := h
    rfl
  · obtain ⟨G, M, a, ns, rfl, S, hA, hl, q⟩ := h
    refine ⟨_, (pss_cons (ps_setLc (i := 2) (own := [("_law_cell", 1)]) (by rfl) sc_bag.nd rfl rfl (sw_true rfl rfl rfl (by decide +kernel)) (pi_listK K (xv 0)) (blkOk_by (N := ["_law_script", "_law_cell", "_law_numbers", "_law_seed", "_law_at"]) (sc := defScope s_bag) (by decide +kernel)) (fun _ _ _ _ _ => (pg_name (i := 1) sc_bag.nd rfl (.inl rfl))) (fun _ _ _ _ _ => pts_nil) (fun _ _ _ _ _ => (pe_callTy cr_int (by rfl) T.m_int (by decide +kernel) (pa_cons (xv 1) pa_nil))))
      (pss_cons (ps_set (i := 3) sc_bag.nd rfl (.inl rfl) (pe_callB (cr_lenK K) (by rfl) T.m_len (by decide +kernel) (pa_cons (xv 2) pa_nil)))
      (pss_cons (ps_for PassesOwn.never rfl (pi_enum (by rfl) T.m_enumerate (pa_cons (pe_slice (sl_listK K) (xv 2) po_none (po_some pe_int)) pa_nil)) (pg_tupK K 2 (pgs_cons (pg_name (i := 4) sc_bag.nd rfl (.inl rfl)) (pgs_cons (pg_name (i := 1) sc_bag.nd rfl (.inl rfl)) pgs_nil)))
      (pss_one (ps_set (i := 3) sc_bag.nd rfl (.inl rfl) (pe_op op_modY (pe_callTy cr_int (by rfl) T.m_int (by decide +kernel) (pa_cons (pe_op op_addY (pe_op op_addY (pe_op op_mulY (xv 3) pe_int) (pe_op op_modY (pe_callTy cr_int (by rfl) T.m_int (by decide +kernel) (pa_cons (pe_callB cr_abs (by rfl) T.m_abs (by decide +kernel) (pa_cons (xv 1) pa_nil)) pa_nil)) pe_int)) (pe_op op_mulY (pe_op op_addY (xv 4) pe_int) (pe_cmpR op_ltY (xv 1) pe_int (nomark _)))) pa_nil)) pe_int))))
      (pss_one (ps_ret (pe_lst (pa_cons (xv 2) (pa_cons pe_int (pa_cons pe_int (pa_cons pe_int (pa_cons (xv 3) pa_nil))))))))))), ?_⟩
    refine ⟨a, rfl, ⟨_, S.l hA⟩, fun L nL => lc_pre (xs := ns.map V.int) (fun pre H' => Sep G ((L, .lst pre) :: M) H') (S.new nL) (fun pre H' p => p.l hA) (fun _ => rfl) (fun pre x post H' e p => ?_) (fun H' S1 => ?_)⟩
    · obtain ⟨c, _, rfl⟩ := List.mem_map.mp (show x ∈ ns.map V.int by rw [e]; simp)
      have hz : pre.length ≤ 63 := by
        have z := congrArg List.length e
        rw [List.length_map, List.length_append] at z
        omega
      exact ⟨_, p.hd, smallL (by omega), p.set⟩
    · -- the seed
      have S2 := S1.frz
      have hN : upd G L (.lst (ns.map V.int)) L = some (.lst (ns.map V.int)) := upd_same
      refine ⟨_, .inl (SqL.of (S2.st hN)), ?_⟩
      refine ⟨63, rfl, L, _, rfl, SqL.of (S2.st hN), fun c nc => ?_⟩
      have S3 := S2.newG (o := .lst (cutV (ns.map V.int) none (some 63))) nc
      have s3 := S2.grow (o := .lst (cutV (ns.map V.int) none (some 63))) nc
      refine ⟨c, _, rfl, SqL.of (S3.st upd_same), for_enum (xs := cutV (ns.map V.int) none (some 63)) (fun pre σ H' => ∃ (y1 y4 : Option V) (z : Int) (G' : Hp), σ = [some (.ref a), y1, some (.ref L), some (.int z), y4] ∧
        Same (upd (upd G L (.lst (ns.map V.int))) c (.lst (cutV (ns.map V.int) none (some 63)))) G' ∧ Sep G' M H') ⟨_, _, _, _, rfl, Same.refl _, S3⟩ (fun pre σ H' h => ?_) (fun pre x post σ H' W e h nW => ?_) (fun σ H' h => ?_)⟩
      · obtain ⟨_, _, _, G', _, s4, S4⟩ := h
        exact SqL.of (S4.st (s4 _ _ upd_same))
      · obtain ⟨y1, y4, z, G', rfl, s4, S4⟩ := h
        have hx : x ∈ ns.map V.int := by
          have hm : x ∈ cutV (ns.map V.int) none (some 63) := by rw [e]; simp
          exact List.mem_of_mem_drop (List.mem_of_mem_take hm)
        obtain ⟨v, _, rfl⟩ := List.mem_map.mp hx
        have S5 := S4.newG (o := .tup [.int (pre.length : Nat), .int v]) nW
        refine ⟨.inr ⟨by decide, by decide⟩, by decide, fun r _ r0 r1 => ⟨by decide, fun u _ u0 u1 => ?_⟩⟩
        exact ⟨_, _, _, _, rfl, s4.trans (S4.grow nW), S5⟩
      · obtain ⟨y1, y4, z, G', rfl, s4, S4⟩ := h
        refine ⟨sz, fun b nb => ?_⟩
        exact q b _ G' _ ((S1.frzS).trans (s3.trans s4)) ⟨L, ns, 0, 0, 0, z, rfl, s4 _ _ (s3 _ _ hN), by decide, by decide⟩ (S4.new nb)

def spChoice (K : PySem.W.Frag) : Sp := fun vs H Q _ => ∃ (G : Hp) (M : List (Addr × HO)) (b : Addr) (o : HO) (l : Addr) (xs : List V), vs = [.ref b, .ref l] ∧ Sep G ((b, o) :: M) H ∧ Bag G o ∧ SqL K G l xs ∧ 0 < xs.length ∧ xs.length < 100000 ∧
  ∀ (v : V) (o' : HO) (H' : Hp), v ∈ xs → Bag G o' → Sep G ((b, o') :: M) H' → Q v H'
theorem ok_choice (T : Top K mg w) {k : Nat} (G_pick : FnOk P w K mg base CX0 k T.a_pick T.d_pick ["_law_bag_here", "_law_many"] spPick) : FnOk P w K mg base CX0 (k + 1) T.a_choice T.d_choice ["_law_bag_here", "_law_things"] (spChoice K) := by
  refine T.F_choice.ok sc_choice (fun vs H Q E h => ?_) (fun cdv A outer s H vs Q E hr h => ?_)
  · obtain ⟨G, M, b, o, l, xs, rfl, _⟩ := h
    rfl
  · obtain ⟨G, M, b, o, l, xs, rfl, S, B, hl, x0, x1, q⟩ := h
    refine ⟨_, (pss_one (ps_ret (pe_ix (ix_k K) (xv 1) (pe_call G_pick (hr.mono (by omega)) (by rfl) T.g_pick T.F_pick.kp T.b_pick .nil pass0 (pa_cons (xv 0) (pa_cons (pe_callB (cr_lenK K) (by rfl) T.m_len (by decide +kernel) (pa_cons (xv 1) pa_nil)) pa_nil))) (fun _ _ => rfl)))), ?_⟩
    refine ⟨_, .inl (S.l hl), G, M, b, o, _, rfl, S, B, by omega, by omega, fun r o' H' r0 r1 B' S' => ?_⟩
    obtain ⟨v, hv, hm⟩ := atI_in r0 r1
    exact ⟨_, v, .inl (S'.l hl), hv, q v o' H' hm B' S'⟩

def spMingled (K : PySem.W.Frag) : Sp := fun vs H Q _ => ∃ (G : Hp) (M : List (Addr × HO)) (b : Addr) (o : HO) (l : Addr) (xs : List V), vs = [.ref b, .ref l] ∧ Sep G ((b, o) :: M) H ∧ Bag G o ∧ SqL K G l xs ∧ xs.length < 100000 ∧
  ∀ (p : Addr) (ys : List V) (o' : HO) (G' H' : Hp), Same G G' → G' p = some (.lst ys) → ys.Perm xs → Bag G' o' → Sep G' ((b, o') :: M) H' → Q (.ref p) H'
theorem ok_mingled (T : Top K mg w) {k : Nat} (G_pick : FnOk P w K mg base CX0 k T.a_pick T.d_pick ["_law_bag_here", "_law_many"] spPick) : FnOk P w K mg base CX0 (k + 1) T.a_mingled T.d_mingled ["_law_bag_here", "_law_things"] (spMingled K) := by
  refine T.F_mingled.ok sc_mingled (fun vs H Q E h => ?_) (fun cdv A outer s H vs Q E hr h => ?_)
  · obtain ⟨G, M, b, o, l, xs, rfl, _⟩ := h
    rfl
  · obtain ⟨G, M, b, o, l, xs, rfl, S, B, hl, x1, q⟩ := h
    refine ⟨_, (pss_cons (ps_set (i := 2) sc_mingled.nd rfl (.inl rfl) (pe_callTy (call_listK K) (by rfl) T.m_list (by decide +kernel) (pa_cons (xv 1) pa_nil)))
      (pss_cons (ps_set (i := 3) sc_mingled.nd rfl (.inl rfl) (pe_lst pa_nil))
      (pss_cons (ps_for PassesOwn.never rfl (pi_range1 (by rfl) T.m_range (pa_cons (pe_callB (cr_lenK K) (by rfl) T.m_len (by decide +kernel) (pa_cons (xv 1) pa_nil)) pa_nil)) (pg_name (i := 4) sc_mingled.nd rfl (.inl rfl))
      (pss_one (ps_expr (pe_bmK K PySem.F.plainAttrs_list PySem.F.slot_list_append PySem.F.type_list_append mt_append (xv 3) (pa_cons (pe_bmK K PySem.F.plainAttrs_list PySem.F.slot_list_pop PySem.F.type_list_pop mt_popAt (xv 2) (pa_cons (pe_call G_pick (hr.mono (by omega)) (by rfl) T.g_pick T.F_pick.kp T.b_pick .nil pass0 (pa_cons (xv 0) (pa_cons (pe_callB (cr_lenK K) (by rfl) T.m_len (by decide +kernel) (pa_cons (xv 2) pa_nil)) pa_nil))) pa_nil)) pa_nil)))))
      (pss_one (ps_ret (xv 3)))))), ?_⟩
    refine ⟨l, xs, rfl, .inl (S.l hl), fun L nL => ?_⟩
    have S1 := S.new (o := .lst xs) nL
    refine ⟨sz, fun O nO => ?_⟩
    have S2 := S1.new (o := .lst []) nO
    refine ⟨_, .inl (S2.l hl), _, rfl, by omega, by omega, for_range (lo := 0) (n := (xs.length : Int).toNat) (fun i σ H' => ∃ (y4 : Option V) (o' : HO) (ls os : List V), σ = [some (.ref b), some (.ref l), some (.ref L), some (.ref O), y4] ∧
      Bag G o' ∧ Sep G ((O, .lst os) :: (L, .lst ls) :: (b, o') :: M) H' ∧ ls.length + i = xs.length ∧ os.length = i ∧ (os ++ ls).Perm xs) ?_ (fun i σ H' hi h => ?_) (fun σ H' h => ?_)⟩
    · exact ⟨_, o, xs, [], rfl, B, S2, by omega, rfl, List.Perm.refl _⟩
    · obtain ⟨y4, o', ls, os, rfl, B', S3, e1, e2, pm⟩ := h
      have S4 := (S3.sw).perm (List.Perm.cons _ (List.Perm.swap _ _ _))
      have S5 := S4.sw
      -- out.append(left.pop(pick(bag, len(left))))
      refine ⟨.inl ⟨rfl, _, SqL.of S3.hd⟩, .inl ⟨rfl, _, SqL.of S4.hd⟩, _, .inl (SqL.of S4.hd), G, _, b, o', _, rfl, S5, B', by omega, by omega, fun r o2 H2 r0 r1 B2 S6 => ?_⟩
      have S7 := S6.sw
      obtain ⟨v, hv, hm⟩ := atI_in r0 r1
      have S8 := S7.set (o' := .lst (ls.eraseIdx r.toNat))
      have S9 := (S8.perm (List.Perm.cons _ (List.Perm.swap _ _ _))).sw
      refine ⟨L, ls, r, r.toNat, v, rfl, rfl, S7.hd, by omega, by omega, seqIdx r0 r1, atN r0 hv, O, os, v, rfl, rfl, S9.hd, smallL (by omega), ?_⟩
      refine ⟨_, o2, ls.eraseIdx r.toNat, os ++ [v], rfl, B2, S9.set, ?_, ?_, ?_⟩
      · rw [List.length_eraseIdx_of_lt (by omega)]
        omega
      · rw [List.length_append, e2]
        rfl
      · refine List.Perm.trans ?_ pm
        rw [List.append_assoc, List.singleton_append]
        refine List.Perm.append_left _ ?_
        exact perm_erase (atN r0 hv)
    · obtain ⟨y4, o', ls, os, rfl, B', S3, e1, e2, pm⟩ := h
      have S4 := ((S3.frz).drop)
      exact q O os o' _ _ S3.frzS upd_same (by
        have e3 : ls = [] := List.eq_nil_of_length_eq_zero (by omega)
        rw [e3, List.append_nil] at pm
        exact pm) (B'.same S3.frzS) S4

def spNumber : Sp := fun vs H Q _ => ∃ i : Int, vs = [.int i] ∧ Q (.bl true) H
theorem ok_number (T : Top K mg w) {k : Nat} : FnOk P w K mg base CX0 (k + 1) T.a_number T.d_number ["_law_thing"] spNumber := by
  refine T.F_number.ok sc_number (fun vs H Q E h => ?_) (fun cdv A outer s H vs Q E hr h => ?_)
  · obtain ⟨i, rfl, _⟩ := h
    rfl
  · obtain ⟨i, rfl, q⟩ := h
    refine ⟨_, (pss_one (ps_ret (xe_and (pe_callB (call_isK K) (by rfl) T.m_isinstance (by decide +kernel) (pa_cons (xv 0) (pa_cons (pe_bltn (v := .ty "int") (by rfl) T.m_int (by decide +kernel) rfl) pa_nil))) (pe_one (xe_not (pe_callB (call_isK K) (by rfl) T.m_isinstance (by decide +kernel) (pa_cons (xv 0) (pa_cons (pe_bltn (v := .ty "bool") (by rfl) T.m_bool (by decide +kernel) rfl) pa_nil)))))))), ?_⟩
    refine ⟨_, _, _, _, true, rfl, .ty _, .base (.int _), kit_ty (by decide +kernel), fun _ => ⟨_, _, _, _, false, rfl, .ty _, .base (.int _), kit_ty (by decide +kernel), ?_⟩, fun e => nomatch e⟩
    exact q

end
end K43
set_option Elab.async false
set_option linter.all false
set_option maxRecDepth 100000
set_option maxHeartbeats 4000000
namespace K43
open PySem PySem.Spec PyProof.Rows L2 XL
section
variable {P : Program} {w : World} {K : PySem.W.Frag} {mg : Str → Option Value} {base : Heap}
/-! ### a new name -/
def spNew : Sp := fun vs H Q _ => ∃ (G : Hp) (M : List (Addr × HO)) (b : Addr) (o : HO) (l : Addr) (zs : List Str), vs = [.ref b, .ref l] ∧ Sep G ((b, o) :: (l, .lst (zs.map V.str)) :: M) H ∧ Bag G o ∧ (∀ z ∈ zs, Lt 1 8 z) ∧ zs.length ≤ 100 ∧
  ∀ (z : Str) (o' : HO) (H' : Hp), Lt 1 8 z → z ∉ zs → z ≠ "item" → z ≠ "at" → Bag G o' → Sep G ((b, o') :: (l, .lst ((zs ++ [z]).map V.str)) :: M) H' → Q (.str z) H'
theorem letter_ix {r : Int} (h0 : 0 ≤ r) (h1 : r < 26) : ∃ c, atI LS.cps.toList r = some c ∧ c ∈ LS.cps.toList := by
  obtain ⟨k, rfl⟩ := Int.eq_ofNat_of_zero_le h0
  have z := letter_at (show k < 26 by omega)
  exact ⟨_, atI_nat z, List.mem_of_getElem? z⟩
theorem LS_len : LS.length ≤ sizeLine := by decide +kernel
theorem lt_small {a b : Nat} {z : Str} (h : Lt a b z) (hb : b ≤ 100) : z.length ≤ sizeLine := Nat.le_trans h.hi (Nat.le_trans hb (by decide))
def freshOf (p : Str) (zs : List Str) (ts : List Str) : List Str := (ts.filter fun t => !decide (p ++ t ∈ zs)).map fun t => p ++ t
theorem fresh_snoc (p : Str) (us ts : List Str) (t2 : Str) : freshOf p us (ts ++ [t2]) = freshOf p us ts ++ (if !decide (p ++ t2 ∈ us) then [p ++ t2] else []) := by
  unfold freshOf
  rw [List.filter_append, List.map_append]
  congr 1
  by_cases h : p ++ t2 ∈ us <;> simp [h]
theorem ok_new_name (T : Top K mg w) {k : Nat} (G_pick : FnOk P w K mg base CX0 k T.a_pick T.d_pick ["_law_bag_here", "_law_many"] spPick) : FnOk P w K mg base CX0 (k + 1) T.a_new_name T.d_new_name ["_law_bag_here", "_law_used"] spNew := by
  refine T.F_new_name.ok sc_new_name (fun vs H Q E h => ?_) (fun cdv A outer s H vs Q E hr h => ?_)
  · obtain ⟨G, M, b, o, l, zs, rfl, _⟩ := h
    rfl
  · obtain ⟨G, M, b, o, l, zs, rfl, S, B, hz, zl, q⟩ := h
    refine ⟨_, (pss_cons (ps_set (i := 2) sc_new_name.nd rfl (.inr rfl) pe_str)
      (pss_cons (ps_set (i := 3) sc_new_name.nd rfl (.inr rfl) (pe_join pe_str (pe_lc (own := [("_law_step", 7)]) (by rfl) sc_new_name.nd (pi_range1 (by rfl) T.m_range (pa_cons (pe_op op_addY pe_int (pe_call G_pick (hr.mono (by omega)) (by rfl) T.g_pick T.F_pick.kp T.b_pick .nil pass0 (pa_cons (xv 0) (pa_cons pe_int pa_nil)))) pa_nil)) (blkOk_by (N := ["_law_bag_here", "_law_used", "_law_letters", "_law_told", "_law_near", "_law_at", "_law_tails", "_law_step", "_law_k", "_law_tail"]) (sc := defScope s_new_name) (by decide +kernel)) (fun _ _ _ _ _ => (pg_name (i := 7) sc_new_name.nd rfl (.inl rfl))) (fun _ _ _ _ _ => pts_nil) (fun _ _ _ _ _ => (pe_ix (ix_k K) (xv 2) (pe_call G_pick (hr.mono (by omega)) (by rfl) T.g_pick T.F_pick.kp T.b_pick .nil pass0 (pa_cons (xv 0) (pa_cons pe_int pa_nil))) (fun _ _ => rfl))))))
      (xss_cut (xs_if (PW.pt (xw_and (xt_truK K (xv 1)) (pw_and1 (xt_cmp (op_eqLK K hr.u190) (pe_call G_pick (hr.mono (by omega)) (by rfl) T.g_pick T.F_pick.kp T.b_pick .nil pass0 (pa_cons (xv 0) (pa_cons pe_int pa_nil))) pe_int (nomark _)))))
      (pss_cons (ps_set (i := 4) sc_new_name.nd rfl (.inl rfl) (pe_slice sl_str (pe_ix (ix_k K) (xv 1) (pe_call G_pick (hr.mono (by omega)) (by rfl) T.g_pick T.F_pick.kp T.b_pick .nil pass0 (pa_cons (xv 0) (pa_cons (pe_callB (cr_lenK K) (by rfl) T.m_len (by decide +kernel) (pa_cons (xv 1) pa_nil)) pa_nil))) (fun _ _ => rfl)) po_none (po_some pe_int)))
      (pss_cons (ps_set (i := 5) sc_new_name.nd rfl (.inl rfl) (pe_call G_pick (hr.mono (by omega)) (by rfl) T.g_pick T.F_pick.kp T.b_pick .nil pass0 (pa_cons (xv 0) (pa_cons (pe_callB (cr_lenK K) (by rfl) T.m_len (by decide +kernel) (pa_cons (xv 4) pa_nil)) pa_nil))))
      (pss_one (ps_set (i := 3) sc_new_name.nd rfl (.inr rfl) (pe_op op_addY (pe_op op_addY (pe_slice sl_str (xv 4) po_none (po_some (xv 5))) (pe_ix (ix_k K) (xv 2) (pe_call G_pick (hr.mono (by omega)) (by rfl) T.g_pick T.F_pick.kp T.b_pick .nil pass0 (pa_cons (xv 0) (pa_cons pe_int pa_nil))) (fun _ _ => rfl))) (pe_slice sl_str (xv 4) (po_some (pe_op op_addY (xv 5) pe_int)) po_none))))))
      pss_nil)
      (xss_cut (xs_if (xt_cmp (in_seqK K) (xv 3) (pe_op op_addY (xv 1) (pe_lst (pa_cons pe_str (pa_cons pe_str pa_nil)))) (by rfl))
      (pss_cons (ps_setLc (i := 6) (own := [("_law_k", 8)]) (by rfl) sc_new_name.nd rfl rfl (sw_true rfl rfl rfl (by decide +kernel)) (pi_range1 (by rfl) T.m_range (pa_cons pe_int pa_nil)) (blkOk_by (N := ["_law_bag_here", "_law_used", "_law_letters", "_law_told", "_law_near", "_law_at", "_law_tails", "_law_step", "_law_k", "_law_tail"]) (sc := defScope s_new_name) (by decide +kernel)) (fun _ _ _ _ _ => (pg_name (i := 8) sc_new_name.nd rfl (.inl rfl))) (fun _ _ _ _ _ => pts_nil) (fun _ _ _ _ _ => (pe_op op_addY (pe_ix (ix_k K) (xv 2) (pe_op op_divY (xv 8) pe_int) (fun _ _ => rfl)) (pe_ix (ix_k K) (xv 2) (pe_op op_modY (pe_callTy cr_int (by rfl) T.m_int (by decide +kernel) (pa_cons (xv 8) pa_nil)) pe_int) (fun _ _ => rfl)))))
      (pss_one (ps_set (i := 3) sc_new_name.nd rfl (.inr rfl) (pe_ix (ix_k K) (pe_lc (own := [("_law_tail", 9)]) (by rfl) sc_new_name.nd (pi_listK K (xv 6)) (blkOk_by (N := ["_law_bag_here", "_law_used", "_law_letters", "_law_told", "_law_near", "_law_at", "_law_tails", "_law_step", "_law_k", "_law_tail"]) (sc := defScope s_new_name) (by decide +kernel)) (fun _ _ _ _ _ => (pg_name (i := 9) sc_new_name.nd rfl (.inl rfl))) (fun _ _ _ _ _ => (pts_one (xt_cmp (notin_seqK K) (pe_op op_addY (pe_slice sl_str (xv 3) po_none (po_some pe_int)) (xv 9)) (pe_op op_addY (xv 1) (pe_lst (pa_cons pe_str pa_nil))) (by rfl)))) (fun _ _ _ _ _ => (pe_op op_addY (pe_slice sl_str (xv 3) po_none (po_some pe_int)) (xv 9)))) pe_int (fun _ _ => rfl)))))
      pss_nil)
      (pss_cons (ps_expr (pe_bmK K PySem.F.plainAttrs_list PySem.F.slot_list_append PySem.F.type_list_append mt_append (xv 1) (pa_cons (xv 3) pa_nil)))
      (pss_one (ps_ret (xv 3)))))))), ?_⟩
    -- letters in a row
    refine ⟨⟨_, rfl⟩, G, _, b, o, 6, rfl, S, B, by decide, by decide, fun r1 o1 H1 r10 r11 B1 S1 => ⟨_, rfl, by omega, by omega, fun D nD => lc_range (lo := 0) (n := (1 + r1).toNat) (fun i H' => ∃ (o' : HO) (ys : List Str), Bag G o' ∧ Sep G ((D, .lst (ys.map V.str)) :: (b, o') :: (l, .lst (zs.map V.str)) :: M) H' ∧ ys.length = i ∧ ∀ y ∈ ys, Lt 1 1 y)
      ⟨o1, [], B1, S1.new nD, rfl, fun y hy => absurd hy (by simp)⟩ (fun i H' hi p => ?_) (fun H' p => ?_)⟩⟩
    · obtain ⟨o', ys, B', S', yl, hy⟩ := p
      refine ⟨rfl, G, _, b, o', 26, rfl, S'.sw, B', by decide, by decide, fun r2 o2 H2 r20 r21 B2 S2 => ?_⟩
      obtain ⟨c, hc, hm⟩ := letter_ix r20 r21
      refine ⟨c, LS_len, hc, ys.map V.str, S2.sw.hd, by rw [List.length_map]; exact smallL (by omega), o2, ys ++ [⟨#[c]⟩], B2, ?_, by rw [List.length_append, yl]; rfl, fun y hy' => ?_⟩
      · rw [List.map_append]
        exact S2.sw.set
      · rcases List.mem_append.mp hy' with z | z
        · exact hy y z
        · rw [List.mem_singleton.mp z]
          exact Lt.one hm
    obtain ⟨o2, ys, B2, S2, yl, hy⟩ := p
    refine ⟨_, D, ys, rfl, rfl, .inl (SqL.of S2.hd), ?_, ?_⟩
    · rw [sum_ones hy, show Str.length ("" : Str) = 0 from rfl, Nat.mul_zero]
      omega
    have S3 := S2.drop
    have lt1 : Lt 1 6 (Txt.join "" ys) := (Lt.join hy).wide (by omega) (by omega)
    generalize Txt.join "" ys = t1 at *
    -- near another one
    refine ⟨fun σ H' => ∃ (y4 y5 : Option V) (o' : HO) (t : Str), σ = [some (.ref b), some (.ref l), some (.str LS), some (.str t), y4, y5, none, none, none, none] ∧ Lt 1 6 t ∧ Bag G o' ∧ Sep G ((b, o') :: (l, .lst (zs.map V.str)) :: M) H', ?_, fun σ H4 h => ?_⟩
    · have stay : ∀ (o' : HO) (H' : Hp), Bag G o' → Sep G ((b, o') :: (l, .lst (zs.map V.str)) :: M) H' → ∃ (y4 y5 : Option V) (o' : HO) (t : Str), ([some (.ref b), some (.ref l), some (.str LS), some (.str t1), none, none, none, none, none, none] : List (Option V)) = [some (.ref b), some (.ref l), some (.str LS), some (.str t), y4, y5, none, none, none, none] ∧ Lt 1 6 t ∧ Bag G o' ∧ Sep G ((b, o') :: (l, .lst (zs.map V.str)) :: M) H' :=
        fun o' H' B' S' => ⟨_, _, o', t1, rfl, lt1, B', S'⟩
      refine ⟨_, .inl ⟨_, SqL.of S3.sw.hd, rfl⟩, fun ne => ⟨G, _, b, o2, 3, rfl, S3, B2, by decide, by decide, fun r4 o4 H4 _ _ B4 S4 => ⟨fun _ => ?_, fun _ => stay o4 H4 B4 S4⟩⟩, fun _ => ⟨ff, fun _ => stay o2 _ B2 S3⟩⟩
      have z0 : 0 < zs.length := by
        cases zs with
        | nil => cases ne
        | cons _ _ => simp
      refine ⟨_, .inl (SqL.of S4.sw.hd), G, _, b, o4, _, rfl, S4, B4, by rw [List.length_map]; omega, by rw [List.length_map]; omega, fun r5 o5 H5 r50 r51 B5 S5 => ?_⟩
      obtain ⟨v5, hv5, hm5⟩ := atI_in r50 r51
      obtain ⟨z5, hz5, rfl⟩ := List.mem_map.mp hm5
      have l5 := hz z5 hz5
      refine ⟨_, _, .inl (SqL.of S5.sw.hd), hv5, _, rfl, z5, rfl, lt_small l5 (by decide), ?_⟩
      have ln : Lt 1 6 (cutS z5 none (some (6 : Int))) := (l5.to 6).wide (by decide) (by decide)
      generalize cutS z5 none (some (6 : Int)) = nr at *
      have nlo := ln.lo
      have nhi := ln.hi
      refine ⟨lt_small ln (by decide), G, _, b, o5, _, rfl, S5, B5, by omega, by omega, fun r6 o6 H6 r60 r61 B6 S6 => ?_⟩
      obtain ⟨k6, rfl⟩ := Int.eq_ofNat_of_zero_le r60
      refine ⟨_, rfl, nr, rfl, lt_small ln (by decide), G, _, b, o6, 26, rfl, S6, B6, by decide, by decide, fun r7 o7 H7 r70 r71 B7 S7 => ?_⟩
      obtain ⟨c, hc, hm⟩ := letter_ix r70 r71
      have a1 : (cutS nr none (some (k6 : Int))).length = k6 := by rw [cut_to_len]; omega
      have a2 : (cutS nr (some ((k6 + 1 : Nat) : Int)) none).length = nr.length - (k6 + 1) := cut_from_len nr (k6 + 1) (by omega)
      refine ⟨c, LS_len, hc, ?_, fun t2 et2 => ⟨_, rfl, nr, rfl, lt_small ln (by decide), ?_, fun t3 et3 => ⟨_, _, o7, t3, rfl, ?_, B7, S7⟩⟩⟩
      · rw [a1]
        exact small (by show k6 + 1 ≤ 100000; omega)
      · rw [et2, app_len, a1]
        show k6 + 1 + (cutS nr (some ((k6 + 1 : Nat) : Int)) none).length ≤ sizeLine
        rw [a2]
        exact small (by omega)
      · rw [et3, et2]
        have p1 : Lt k6 k6 (cutS nr none (some (k6 : Int))) := ⟨by omega, by omega, fun d hd => ln.ch d (cut_mem hd)⟩
        have p2 : Lt (nr.length - (k6 + 1)) (nr.length - (k6 + 1)) (cutS nr (some ((k6 + 1 : Nat) : Int)) none) := ⟨by omega, by omega, fun d hd => ln.ch d (cut_mem hd)⟩
        exact ((p1.app (Lt.one hm)).app p2).wide (by omega) (by omega)
    obtain ⟨y4, y5, o4, t, rfl, lt, B4, S4⟩ := h
    -- one that is used
    refine ⟨fun σ H' => ∃ (y6 : Option V) (z : Str), σ = [some (.ref b), some (.ref l), some (.str LS), some (.str z), y4, y5, y6, none, none, none] ∧ Lt 1 8 z ∧ z ∉ zs ∧ z ≠ "item" ∧ z ≠ "at" ∧ Sep G ((b, o4) :: (l, .lst (zs.map V.str)) :: M) H', ?_, fun σ H5 h => ?_⟩
    · refine ⟨sz, fun A1 nA1 => ?_⟩
      have S5 := S4.new (o := .lst [.str "item", .str "at"]) nA1
      refine ⟨l, A1, zs.map V.str, [.str "item", .str "at"], rfl, rfl, S5.at (show (l, HO.lst (zs.map V.str)) ∈ _ by simp), S5.hd, small (by rw [List.length_map]; simp; omega), fun A2 nA2 => ?_⟩
      have e6 : zs.map V.str ++ [V.str "item", .str "at"] = (zs ++ (["item", "at"] : List Str)).map V.str := by rw [List.map_append]; rfl
      rw [e6]
      have S6 := S5.new (o := .lst ((zs ++ (["item", "at"] : List Str)).map V.str)) nA2
      have S7 := S6.drop.drop
      refine ⟨A2, _, rfl, .inl (SqL.of S6.hd), rfl, strs_flat _, fun e1 => ?_, fun e1 => ?_⟩
      · -- its tails
        refine ⟨676, rfl, by decide, by decide, fun D nD => lc_range (lo := 0) (n := (676 : Int).toNat) (fun i H' => Sep G ((D, .lst (((List.range i).map tail2).map V.str)) :: (b, o4) :: (l, .lst (zs.map V.str)) :: M) H') (S7.new nD) (fun i H' hi p => ?_) (fun H8 S8 => ?_)⟩
        · have hi : i < 676 := hi
          rw [Int.zero_add]
          refine ⟨rfl, ⟨by decide, by decide⟩, fun d ed _ => ⟨letter (i / 26), LS_len, ?_, by decide, fun r er r0 r1 => ⟨letter (i % 26), LS_len, ?_, small (by show 1 + 1 ≤ 100000; decide), fun t2 et2 => ⟨_, p.hd, ?_, ?_⟩⟩⟩⟩
          · have z : d = ((i / 26 : Nat) : Int) := by omega
            rw [z]
            exact atI_nat (letter_at (by omega))
          · have z : r = ((i % 26 : Nat) : Int) := by omega
            rw [z]
            exact atI_nat (letter_at (by omega))
          · rw [List.length_map, List.length_map, List.length_range]
            exact smallL (by omega)
          · rw [List.range_succ, List.map_append, List.map_append, et2]
            exact p.set
        have S8 : Sep G ((D, .lst (((List.range 676).map tail2).map V.str)) :: (b, o4) :: (l, .lst (zs.map V.str)) :: M) H8 := S8
        have ltp : Lt 1 6 (cutS t none (some (6 : Int))) := (lt.to 6).wide (by decide) (by decide)
        generalize ep : cutS t none (some (6 : Int)) = p at *
        have tl : ∀ t2 ∈ (List.range 676).map tail2, Lt 2 2 t2 := fun t2 h => by
          obtain ⟨k2, hk2, rfl⟩ := List.mem_map.mp h
          exact tail2_lt (List.mem_range.mp hk2)
        obtain ⟨ts, ets⟩ : ∃ ts, ts = (List.range 676).map tail2 := ⟨_, rfl⟩
        rw [← ets] at tl S8
        have tsl : ts.length = 676 := by rw [ets]; simp
        refine ⟨D, rfl, ⟨_, SqL.of S8.hd⟩, fun F nF => lc_list (xs := ts.map V.str) (fun i H' => Sep G ((F, .lst ((freshOf p (zs ++ (["item"] : List Str)) (ts.take i)).map V.str)) :: (D, .lst (ts.map V.str)) :: (b, o4) :: (l, .lst (zs.map V.str)) :: M) H')
          (S8.new nF) (fun i H' _ p' => SqL.of p'.sw.hd) (fun i x H' hx p' => ?_) (fun H9 S9 => ?_)⟩
        · rw [List.getElem?_map] at hx
          obtain ⟨t2, ht2, rfl⟩ := Option.map_eq_some_iff.mp hx
          have lt2 := tl t2 (List.mem_of_getElem? ht2)
          have il := (List.getElem?_eq_some_iff.mp ht2).1
          have ltb := ltp.app lt2
          have hb := ltb.hi
          rw [app_len] at hb
          have flen : (freshOf p (zs ++ (["item"] : List Str)) (ts.take i)).length ≤ 676 := by
            unfold freshOf
            rw [List.length_map]
            refine Nat.le_trans (List.length_filter_le _ _) ?_
            rw [List.length_take]
            omega
          have fstep : freshOf p (zs ++ (["item"] : List Str)) (ts.take (i + 1)) = freshOf p (zs ++ (["item"] : List Str)) (ts.take i) ++ (if !decide (p ++ t2 ∈ zs ++ (["item"] : List Str)) then [p ++ t2] else []) := by
            rw [XL.take_snoc ht2]
            exact fresh_snoc _ _ _ _
          rw [fstep]
          refine ⟨rfl, _, rfl, t, rfl, lt_small lt (by decide), ?_⟩
          rw [ep]
          refine ⟨small (by omega), fun u1 eu1 => ⟨sz, fun A3 nA3 => ?_⟩⟩
          have Sa := p'.new (o := .lst [.str "item"]) nA3
          refine ⟨l, A3, zs.map V.str, [.str "item"], rfl, rfl, Sa.at (show (l, HO.lst (zs.map V.str)) ∈ _ by simp), Sa.hd, small (by rw [List.length_map]; simp; omega), fun A4 nA4 => ?_⟩
          have e7 : zs.map V.str ++ [V.str "item"] = (zs ++ (["item"] : List Str)).map V.str := by rw [List.map_append]; rfl
          rw [e7]
          have Sb := Sa.new (o := .lst ((zs ++ (["item"] : List Str)).map V.str)) nA4
          refine ⟨A4, _, rfl, .inl (SqL.of Sb.hd), rfl, strs_flat _, ?_⟩
          have e8 : (if true = true then !inV (V.str u1) ((zs ++ (["item"] : List Str)).map V.str) else inV (V.str u1) ((zs ++ (["item"] : List Str)).map V.str)) = !decide (p ++ t2 ∈ zs ++ (["item"] : List Str)) := by rw [if_pos rfl, inV_str, eu1]
          rw [e8]
          have Sc := Sb.drop.drop
          refine tst (fun e9 => ?_) (fun e9 => ?_)
          · rw [if_pos e9]
            refine ⟨_, rfl, t, rfl, lt_small lt (by decide), ?_⟩
            rw [ep]
            refine ⟨small (by omega), fun u2 eu2 => ⟨_, Sc.hd, by rw [List.length_map]; exact smallL (by omega), ?_⟩⟩
            rw [List.map_append, eu2]
            exact Sc.set
          · rw [if_neg (by rw [e9]; exact Bool.false_ne_true), List.append_nil]
            exact Sc
        rw [List.length_map, List.take_length] at S9
        obtain ⟨k0, hk0, no⟩ := unused p (zs ++ (["item"] : List Str)) (by rw [List.length_append]; simp; omega)
        have mem : p ++ tail2 k0 ∈ freshOf p (zs ++ (["item"] : List Str)) ts := by
          unfold freshOf
          refine List.mem_map.mpr ⟨tail2 k0, List.mem_filter.mpr ⟨?_, by simpa using no⟩, rfl⟩
          rw [ets]
          exact List.mem_map.mpr ⟨k0, List.mem_range.mpr hk0, rfl⟩
        cases ef : freshOf p (zs ++ (["item"] : List Str)) ts with
        | nil => rw [ef] at mem; cases mem
        | cons z0 zr =>
          rw [ef] at S9
          have hz0 : z0 ∈ freshOf p (zs ++ (["item"] : List Str)) ts := by rw [ef]; exact List.mem_cons_self
          unfold freshOf at hz0
          obtain ⟨t2, ht2, rfl⟩ := List.mem_map.mp hz0
          obtain ⟨h1, h2⟩ := List.mem_filter.mp ht2
          have no2 : p ++ t2 ∉ zs ++ (["item"] : List Str) := by simpa using h2
          have l2 := ltp.app (tl t2 h1)
          refine ⟨_, .str (p ++ t2), .inl (SqL.of S9.hd), (show atI _ ((0 : Nat) : Int) = some _ from atI_nat rfl), _, p ++ t2, rfl, l2.wide (by decide) (by decide), fun h => no2 (List.mem_append_left _ h), fun h => no2 (List.mem_append_right _ (by rw [h]; simp)), fun h => ?_, S9.drop.drop⟩
          have l3 := l2.lo
          rw [h] at l3
          exact absurd l3 (by decide +kernel)
      · have e2 : inV (.str t) ((zs ++ (["item", "at"] : List Str)).map V.str) = false := e1
        rw [inV_str] at e2
        have no := of_decide_eq_false e2
        exact ⟨_, t, rfl, lt.wide (by decide) (by decide), fun h => no (List.mem_append_left _ h), fun h => no (List.mem_append_right _ (by rw [h]; simp)), fun h => no (List.mem_append_right _ (by rw [h]; simp)), S7⟩
    obtain ⟨y6, z, rfl, ltz, f1, f2, f3, S5⟩ := h
    refine ⟨.inl ⟨rfl, _, SqL.of S5.sw.hd⟩, l, _, _, rfl, rfl, S5.sw.hd, smallL (by rw [List.length_map]; omega), ?_⟩
    refine q z o4 _ ltz f1 f2 f3 B4 ?_
    rw [List.map_append]
    exact (S5.sw.set).sw

end
end K43
set_option Elab.async false
set_option linter.all false
set_option maxRecDepth 100000
set_option maxHeartbeats 4000000
namespace K43
open PySem PySem.Spec PyProof.Rows L2 XL
/-! ### data of a bounded size -/
theorem showAll : ∀ {xs : List PyData}, (∀ x ∈ xs, x.showable = true) → PyData.showableAll xs = true
  | [], _ => by simp only [PyData.showableAll]
  | x :: xs, h => by
    simp only [PyData.showableAll, h x (by simp), showAll (xs := xs) fun y hy => h y (List.mem_cons_of_mem _ hy), Bool.and_self]
theorem layAll : ∀ {xs : List PyData}, (∀ x ∈ xs, x.canLay0 = true) → PyData.canLayAll0 xs = true
  | [], _ => by simp only [PyData.canLayAll0]
  | x :: xs, h => by
    simp only [PyData.canLayAll0, h x (by simp), layAll (xs := xs) fun y hy => h y (List.mem_cons_of_mem _ hy), Bool.and_self]
theorem depthAll_le {n : Nat} : ∀ {xs : List PyData}, (∀ x ∈ xs, x.depth ≤ n) → PyData.depthAll xs ≤ n
  | [], _ => by simp only [PyData.depthAll]; omega
  | x :: xs, h => by
    have h1 := h x (by simp)
    have h2 := depthAll_le (xs := xs) fun y hy => h y (List.mem_cons_of_mem _ hy)
    simp only [PyData.depthAll]
    omega
theorem shortAll {n : Nat} : ∀ {xs : List PyData}, (∀ x ∈ xs, x.leavesShort n = true) → PyData.leavesShortAll n xs = true
  | [], _ => by simp only [PyData.leavesShortAll]
  | x :: xs, h => by
    simp only [PyData.leavesShortAll, h x (by simp), shortAll (xs := xs) fun y hy => h y (List.mem_cons_of_mem _ hy), Bool.and_self]
theorem weightAll_le {n : Nat} : ∀ {xs : List PyData}, (∀ x ∈ xs, x.weight ≤ n) → PyData.weightAll xs ≤ xs.length * (n + 1)
  | [], _ => by simp only [PyData.weightAll]; omega
  | x :: xs, h => by
    have h1 := h x (by simp)
    have h2 := weightAll_le (xs := xs) fun y hy => h y (List.mem_cons_of_mem _ hy)
    simp only [PyData.weightAll, List.length_cons, Nat.add_mul]
    omega
structure Fit (w dp : Nat) (d : PyData) : Prop where
  cl : d.canLay0 = true
  sh : d.showable = true
  ls : d.leavesShort 8 = true
  dp : d.depth ≤ dp
  wt : d.weight ≤ w
theorem Fit.mono {w dp w' dp' : Nat} {d : PyData} (h : Fit w dp d) (h1 : w ≤ w') (h2 : dp ≤ dp') : Fit w' dp' d := ⟨h.cl, h.sh, h.ls, Nat.le_trans h.dp h2, Nat.le_trans h.wt h1⟩
theorem Fit.shaped {w dp : Nat} {d : PyData} (h : Fit w dp d) (h2 : dp ≤ 64) : SeqAt.shaped d = true := by
  unfold SeqAt.shaped
  rw [h.cl, decide_eq_true (Nat.le_trans h.dp h2)]
  rfl
theorem Fit.self {w dp : Nat} {d : PyData} (h : Fit w dp d) : PyData.eqv d d = true := SeqAt.eqv_refl d h.cl
structure Shw (d : PyData) : Prop where
  sh : d.showable = true
  nd : d.hasDict = false
  dp : d.depth ≤ 64
  ln : d.shown.length ≤ sizeLine
theorem Fit.shw {w dp : Nat} {d : PyData} (h : Fit w dp d) (h1 : w ≤ 1048576) (h2 : dp ≤ 64) : Shw d :=
  ⟨h.sh, PyData.hasDict_of_canLay d h.cl, Nat.le_trans h.dp h2, PyData.shown_fits (B := 8) (by decide) (by decide) h.ls (Nat.le_trans h.wt (Nat.le_trans h1 (by decide)))⟩
theorem Fit.tup {w dp : Nat} {ds : List PyData} (hw : PyData.weightAll ds ≤ w) (h : ∀ d ∈ ds, ∃ w', Fit w' dp d) : Fit w (dp + 1) (.tuple ds) := by
  have dl := depthAll_le (n := dp) fun d hd => (h d hd).choose_spec.dp
  refine ⟨?_, ?_, ?_, ?_, ?_⟩
  · simp only [PyData.canLay0]; exact layAll fun d hd => (h d hd).choose_spec.cl
  · simp only [PyData.showable]; exact showAll fun d hd => (h d hd).choose_spec.sh
  · simp only [PyData.leavesShort]; exact shortAll fun d hd => (h d hd).choose_spec.ls
  · simp only [PyData.depth]; omega
  · simp only [PyData.weight]; exact hw
theorem Fit.lst {w dp : Nat} {ds : List PyData} (hw : PyData.weightAll ds ≤ w) (h : ∀ d ∈ ds, ∃ w', Fit w' dp d) : Fit w (dp + 1) (.list ds) := by
  have dl := depthAll_le (n := dp) fun d hd => (h d hd).choose_spec.dp
  refine ⟨?_, ?_, ?_, ?_, ?_⟩
  · simp only [PyData.canLay0]; exact layAll fun d hd => (h d hd).choose_spec.cl
  · simp only [PyData.showable]; exact showAll fun d hd => (h d hd).choose_spec.sh
  · simp only [PyData.leavesShort]; exact shortAll fun d hd => (h d hd).choose_spec.ls
  · simp only [PyData.depth]; omega
  · simp only [PyData.weight]; exact hw
theorem Fit.tups {w dp : Nat} {ds : List PyData} (h : ∀ d ∈ ds, Fit w dp d) : Fit (ds.length * (w + 1)) (dp + 1) (.tuple ds) := .tup (weightAll_le fun d hd => (h d hd).wt) fun d hd => ⟨w, h d hd⟩
theorem Fit.lsts {w dp : Nat} {ds : List PyData} (h : ∀ d ∈ ds, Fit w dp d) : Fit (ds.length * (w + 1)) (dp + 1) (.list ds) := .lst (weightAll_le fun d hd => (h d hd).wt) fun d hd => ⟨w, h d hd⟩
theorem Fit.str {z : Str} {w : Nat} (h : ∀ c ∈ z.cps.toList, c < 1114112) (l : z.length ≤ w) : Fit w 0 (.str z) := by
  refine ⟨?_, by simp only [PyData.showable], ?_, by simp only [PyData.depth]; omega, ?_⟩
  · simp only [PyData.canLay0]
    unfold PyData.strOk
    rw [← Array.all_toList, List.all_eq_true]
    exact fun c hc => decide_eq_true (h c hc)
  · simp only [PyData.leavesShort]
    rw [List.all_eq_true]
    exact fun c hc => decide_eq_true (Nat.lt_trans (h c hc) (by decide))
  · simp only [PyData.weight]
    exact l
theorem LS_low : ∀ c ∈ LS.cps.toList, c < 1114112 := by decide +kernel
theorem Fit.name {z : Str} {a b : Nat} (h : Lt a b z) : Fit b 0 (.str z) := .str (fun c hc => LS_low c (h.ch c hc)) h.hi
theorem dig_short : ∀ n : Nat, n < 10 → (PyData.shown (.int (n : Nat))).length ≤ 8 ∧ PyData.weight (.int (n : Nat)) ≤ 4 ∧ PyData.showable (.int (n : Nat)) = true := by decide +kernel
theorem Fit.digit {n : Int} (h0 : 0 ≤ n) (h1 : n ≤ 9) : Fit 4 0 (.int n) := by
  obtain ⟨k, rfl⟩ := Int.eq_ofNat_of_zero_le h0
  have z := dig_short k (by omega)
  refine ⟨by simp only [PyData.canLay0], z.2.2, ?_, by simp only [PyData.depth]; omega, z.2.1⟩
  simp only [PyData.leavesShort]
  exact decide_eq_true z.1
/-! ### data at a value -/
theorem dp_tup {K : PySem.W.Frag} {G : Hp} {v : V} {ds : List PyData} (h : Dp K G v (.tuple ds)) : ∃ a xs, v = .ref a ∧ SqT K G a xs ∧ DpAll K G xs ds := by
  cases h with
  | tup h1 h2 => exact ⟨_, _, rfl, h1, h2⟩
theorem dpa_cons {K : PySem.W.Frag} {G : Hp} {xs : List V} {d : PyData} {ds : List PyData} (h : DpAll K G xs (d :: ds)) : ∃ x r, xs = x :: r ∧ Dp K G x d ∧ DpAll K G r ds := by
  cases h with
  | cons h1 h2 => exact ⟨_, _, rfl, h1, h2⟩
theorem dpa_nil {K : PySem.W.Frag} {G : Hp} {xs : List V} (h : DpAll K G xs []) : xs = [] := by
  cases h
  rfl
theorem dp_str {K : PySem.W.Frag} {G : Hp} {v : V} {z : Str} (h : Dp K G v (.str z)) : v = .str z := by
  cases h
  rfl
theorem dpa_len {K : PySem.W.Frag} {G : Hp} : ∀ {xs : List V} {ds : List PyData}, DpAll K G xs ds → xs.length = ds.length
  | _, _, .nil => rfl
  | _, _, .cons _ h => congrArg (· + 1) (dpa_len h)
theorem dpa_get {K : PySem.W.Frag} {G : Hp} : ∀ {xs : List V} {ds : List PyData} {i : Nat} {x : V}, DpAll K G xs ds → xs[i]? = some x → ∃ d, ds[i]? = some d ∧ Dp K G x d
  | _, _, _, _, .nil, h => by simp at h
  | _, _, 0, _, .cons h1 _, h => by
    simp at h
    subst h
    exact ⟨_, rfl, h1⟩
  | _, _, i + 1, _, .cons _ h2, h => by
    rw [List.getElem?_cons_succ] at h
    obtain ⟨d, e1, e2⟩ := dpa_get h2 h
    exact ⟨d, by rw [List.getElem?_cons_succ]; exact e1, e2⟩
theorem dpa_app {K : PySem.W.Frag} {G : Hp} : ∀ {xs ys : List V} {ds es : List PyData}, DpAll K G xs ds → DpAll K G ys es → DpAll K G (xs ++ ys) (ds ++ es)
  | _, _, _, _, .nil, h => h
  | _, _, _, _, .cons h1 h2, h => .cons h1 (dpa_app h2 h)
theorem dpa_take {K : PySem.W.Frag} {G : Hp} : ∀ {xs : List V} {ds : List PyData} (n : Nat), DpAll K G xs ds → DpAll K G (xs.take n) (ds.take n)
  | _, _, 0, _ => .nil
  | _, _, _ + 1, .nil => .nil
  | _, _, n + 1, .cons h1 h2 => .cons h1 (dpa_take n h2)
theorem dpa_drop {K : PySem.W.Frag} {G : Hp} : ∀ {xs : List V} {ds : List PyData} (n : Nat), DpAll K G xs ds → DpAll K G (xs.drop n) (ds.drop n)
  | _, _, 0, h => h
  | _, _, _ + 1, .nil => .nil
  | _, _, n + 1, .cons _ h2 => dpa_drop n h2
theorem dpa_one {K : PySem.W.Frag} {G : Hp} {v : V} {d : PyData} (h : Dp K G v d) : DpAll K G [v] [d] := .cons h .nil
theorem Sep.mk {G H : Hp} {M : List (Addr × HO)} {p : Addr} {o : HO} (S : Sep G M H) (h : H p = none) : ∃ G', Same G G' ∧ Sep G' M (upd H p o) ∧ G' p = some o := ⟨_, S.grow h, S.newG h, upd_same⟩

/-! ### fields -/
theorem putF_ne {f g : Str} {v x : V} {r : List (Str × V)} (h : decide (g = f) = false := by decide +kernel) : putF f v ((g, x) :: r) = (g, x) :: putF f v r := by
  show (if g = f then _ else _) = _
  rw [if_neg (of_decide_eq_false h)]
theorem putF_eq {f : Str} {v x : V} {r : List (Str × V)} : putF f v ((f, x) :: r) = (f, v) :: r := by
  show (if f = f then _ else _) = _
  rw [if_pos rfl]
theorem putF_nil {f : Str} {v : V} : putF f v [] = [(f, v)] := rfl
theorem lk_ne {f g : Str} {x : V} {r : List (Str × V)} (h : (f == g) = false := by decide +kernel) : List.lookup f ((g, x) :: r) = List.lookup f r := by simp [List.lookup, h]
theorem lk_eq {f : Str} {x : V} {r : List (Str × V)} : List.lookup f ((f, x) :: r) = some x := by simp [List.lookup]
theorem Sep.keep {G H : Hp} {M : List (Addr × HO)} {p : Addr} {o : HO} (S : Sep G ((p, o) :: M) H) : ∃ G', Same G G' ∧ Sep G' M H ∧ G' p = some o := ⟨_, S.frzS, S.frz, upd_same⟩

/-! ### dicts by name -/
def dk (ns : List Str) (e : Str → Int) : List (Key × V) := ns.map fun x => (Sum.inr x, V.int (e x))
theorem dk_keys (ns : List Str) (e : Str → Int) : (dk ns e).map (fun kv => kV kv.1) = ns.map V.str := by
  unfold dk
  rw [List.map_map]
  rfl
theorem dk_len (ns : List Str) (e : Str → Int) : (dk ns e).length = ns.length := List.length_map _
theorem dk_val {e : Str → Int} {x : Str} : ∀ {ns : List Str}, x ∈ ns → valV (dk ns e) (Sum.inr x) = some (.int (e x))
  | y :: r, h => by
    unfold dk valV
    rw [List.map_cons, List.find?_cons]
    by_cases hy : y = x
    · subst hy
      simp
    · have h2 : x ∈ r := by
        rcases List.mem_cons.mp h with h | h
        · exact absurd h.symm hy
        · exact h
      have := dk_val (e := e) h2
      unfold dk valV at this
      simp only [Sum.inr.injEq, hy, decide_false]
      exact this
theorem dk_none {e : Str → Int} {x : Str} : ∀ {ns : List Str}, x ∉ ns → valV (dk ns e) (Sum.inr x) = none
  | [], _ => rfl
  | y :: r, h => by
    unfold dk valV
    rw [List.map_cons, List.find?_cons]
    have hy : ¬ y = x := fun hy => h (by rw [hy]; exact List.mem_cons_self)
    have := dk_none (e := e) (ns := r) (x := x) fun h2 => h (List.mem_cons_of_mem _ h2)
    unfold dk valV at this
    simp only [Sum.inr.injEq, hy, decide_false]
    exact this
theorem dk_put {ns : List Str} {e : Str → Int} {x : Str} {i : Nat} (nd : ns.Nodup) (hx : ns[i]? = some x) : putK (dk (ns.take i) e) (Sum.inr x) (.int (e x)) = dk (ns.take (i + 1)) e := by
  have nin : x ∉ ns.take i := fun h => by
    rw [(take_pre hx).1, List.nodup_append] at nd
    exact nd.2.2 _ h _ List.mem_cons_self rfl
  rw [putK_new _ (dk_none nin), take_snoc hx]
  simp [dk]
def ups (e : Str → Int) (y : Str) (v : Int) : Str → Int := fun x => if x = y then v else e x
theorem dk_set {ns : List Str} {e : Str → Int} {y : Str} {v : Int} (hy : y ∈ ns) : putK (dk ns e) (Sum.inr y) (.int v) = dk ns (ups e y v) := by
  unfold putK
  rw [valV_any, dk_val hy, Option.isSome_some, if_pos rfl]
  unfold dk
  rw [List.map_map]
  refine List.map_congr_left fun x hx => ?_
  simp only [Function.comp_apply, Sum.inr.injEq, ups]
  by_cases h : x = y
  · rw [if_pos h, if_pos h]
  · rw [if_neg h, if_neg h]
theorem dk_congr {ns : List Str} {e e' : Str → Int} (h : ∀ x ∈ ns, e x = e' x) : dk ns e = dk ns e' := by
  unfold dk
  exact List.map_congr_left fun x hx => by rw [h x hx]
/-! ### shapes of texts -/
def txD (x : Str) : PyData := .tuple [.str "text", .tuple [.str "get", .str x]]
def coD (nn : List Str) : PyData := .tuple [.str "col", .tuple (nn.map txD)]
/-- col(text(get x), ..) -/
structure ShAt (K : PySem.W.Frag) (G : Hp) (v : V) (nn : List Str) : Prop where
  dp : Dp K G v (coD nn)
theorem sh_at {K : PySem.W.Frag} {G : Hp} {v : V} {nn : List Str} (h : Dp K G v (coD nn)) : ∃ a b us, v = .ref a ∧ SqT K G a [.str "col", .ref b] ∧ SqT K G b us ∧ DpAll K G us (nn.map txD) := by
  obtain ⟨a, xs, rfl, h1, h2⟩ := dp_tup h
  obtain ⟨x1, r1, rfl, h3, h4⟩ := dpa_cons h2
  obtain ⟨x2, r2, rfl, h5, h6⟩ := dpa_cons h4
  cases h6
  rw [dp_str h3] at h1
  obtain ⟨b, us, rfl, h7, h8⟩ := dp_tup h5
  exact ⟨a, b, us, rfl, h1, h7, h8⟩
theorem tx_at {K : PySem.W.Frag} {G : Hp} {v : V} {x : Str} (h : Dp K G v (txD x)) : ∃ a b, v = .ref a ∧ SqT K G a [.str "text", .ref b] ∧ SqT K G b [.str "get", .str x] := by
  obtain ⟨a, xs, rfl, h1, h2⟩ := dp_tup h
  obtain ⟨x1, r1, rfl, h3, h4⟩ := dpa_cons h2
  obtain ⟨x2, r2, rfl, h5, h6⟩ := dpa_cons h4
  cases h6
  rw [dp_str h3] at h1
  obtain ⟨b, us, rfl, h7, h8⟩ := dp_tup h5
  obtain ⟨y1, s1, rfl, g3, g4⟩ := dpa_cons h8
  obtain ⟨y2, s2, rfl, g5, g6⟩ := dpa_cons g4
  cases g6
  rw [dp_str g3, dp_str g5] at h7
  exact ⟨a, b, rfl, h1, h7⟩

section
variable {P : Program} {w : World} {K : PySem.W.Frag} {mg : Str → Option Value} {base : Heap}
end
end K43
set_option Elab.async false
set_option linter.all false
set_option maxRecDepth 100000
set_option maxHeartbeats 4000000
namespace K43
open PySem PySem.Spec PyProof.Rows L2 XL
/-! ### forms by name -/
inductive Gm where
  | is (n : Int)
  | get (x : Str)
  | sum (a b : Gm)
  | same (a b : Gm)
  | pick (a b c : Gm)
def Gm.dep : Gm → Nat
  | .is _ => 1
  | .get _ => 1
  | .sum a b => max a.dep b.dep + 1
  | .same a b => max a.dep b.dep + 1
  | .pick a b c => max a.dep (max b.dep c.dep) + 1
def Gm.val (e : Str → Int) : Gm → Int
  | .is n => n
  | .get x => e x
  | .sum a b => (a.val e + b.val e) % 10
  | .same a b => if a.val e = b.val e then 1 else 0
  | .pick a b c => if a.val e = 0 then c.val e else b.val e
def Gm.ok (ns : List Str) : Gm → Prop
  | .is n => 0 ≤ n ∧ n ≤ 9
  | .get x => x ∈ ns
  | .sum a b => a.ok ns ∧ b.ok ns
  | .same a b => a.ok ns ∧ b.ok ns
  | .pick a b c => a.ok ns ∧ b.ok ns ∧ c.ok ns
theorem Gm.dep_pos (f : Gm) : 0 < f.dep := by cases f <;> simp [Gm.dep]
theorem Gm.val_congr {ns : List Str} {e e' : Str → Int} (h : ∀ x ∈ ns, e x = e' x) : ∀ f : Gm, f.ok ns → f.val e = f.val e'
  | .is n, _ => rfl
  | .get x, ok => h x ok
  | .sum a b, ok => by rw [Gm.val, Gm.val, Gm.val_congr h a ok.1, Gm.val_congr h b ok.2]
  | .same a b, ok => by rw [Gm.val, Gm.val, Gm.val_congr h a ok.1, Gm.val_congr h b ok.2]
  | .pick a b c, ok => by rw [Gm.val, Gm.val, Gm.val_congr h a ok.1, Gm.val_congr h b ok.2.1, Gm.val_congr h c ok.2.2]
theorem Gm.val_ok {ns : List Str} {e : Str → Int} (h : ∀ x ∈ ns, 0 ≤ e x ∧ e x ≤ 9) : ∀ f : Gm, f.ok ns → 0 ≤ f.val e ∧ f.val e ≤ 9
  | .is n, ok => ok
  | .get x, ok => h x ok
  | .sum a b, _ => by rw [Gm.val]; omega
  | .same a b, _ => by rw [Gm.val]; split <;> omega
  | .pick a b c, ok => by
    rw [Gm.val]
    split
    · exact Gm.val_ok h c ok.2.2
    · exact Gm.val_ok h b ok.2.1
inductive GmAt (K : PySem.W.Frag) (G : Hp) : V → Gm → Prop where
  | is {p : Addr} {n : Int} (h : SqT K G p [.str "is", .int n]) : GmAt K G (.ref p) (.is n)
  | get {p : Addr} {x : Str} (h : SqT K G p [.str "get", .str x]) : GmAt K G (.ref p) (.get x)
  | sum {p : Addr} {u v : V} {a b : Gm} (h : SqT K G p [.str "sum", u, v]) (h2 : GmAt K G u a) (h3 : GmAt K G v b) : GmAt K G (.ref p) (.sum a b)
  | same {p : Addr} {u v : V} {a b : Gm} (h : SqT K G p [.str "same", u, v]) (h2 : GmAt K G u a) (h3 : GmAt K G v b) : GmAt K G (.ref p) (.same a b)
  | pick {p : Addr} {u v w : V} {a b c : Gm} (h : SqT K G p [.str "pick", u, v, w]) (h2 : GmAt K G u a) (h3 : GmAt K G v b) (h4 : GmAt K G w c) : GmAt K G (.ref p) (.pick a b c)
theorem GmAt.same' {K : PySem.W.Frag} {G G' : Hp} (e : Same G G') {v : V} {f : Gm} (h : GmAt K G v f) : GmAt K G' v f := by
  induction h with
  | is h => exact .is (same_t e h)
  | get h => exact .get (same_t e h)
  | sum h _ _ h2 h3 => exact .sum (same_t e h) h2 h3
  | same h _ _ h2 h3 => exact .same (same_t e h) h2 h3
  | pick h _ _ _ h2 h3 h4 => exact .pick (same_t e h) h2 h3 h4
theorem wd {a b : Str} {A : Prop} (h : decide (a = b) = true) (n : decide (a = b) = false := by decide +kernel) : A := by rw [n] at h; cases h
theorem we {a : Str} {A : Prop} (h : decide (a = a) = false) : A := by rw [decide_eq_true rfl] at h; cases h
/-- a dict by name at an address -/
def DkAt (H : Hp) (d : Addr) (ns : List Str) (e : Str → Int) : Prop := H d = some (.dK (dk ns e))
theorem dk_get {H : Hp} {d : Addr} {ns : List Str} {e : Str → Int} {x : Str} (h : H d = some (.dK (dk ns e))) (hx : x ∈ ns) : DGet H d (.str x) (some (.int (e x))) := by
  rw [← dk_val hx]
  exact DGet.k (k := Sum.inr x) h

section
variable {P : Program} {w : World} {K : PySem.W.Frag} {mg : Str → Option Value} {base : Heap}
theorem fn_false {P : Program} {w : World} {K : PySem.W.Frag} {mg : Str → Option Value} {base : Heap} {CX : CXT} {k : Nat} {f : Addr} {fd : FuncData} {ps : List Str} {sp : Sp} (h : ∀ vs H Q E, sp vs H Q E → False) : FnOk P w K mg base CX k f fd ps sp :=
  ⟨fun vs H Q E q => (h vs H Q E q).elim, fun A outer s H args us vs Q E hr he hb hv q => (h vs H Q E q).elim⟩
def spForm (K : PySem.W.Frag) (d : Nat) : Sp := fun vs H Q _ => ∃ (G : Hp) (M : List (Addr × HO)) (b : Addr) (o : HO) (l : Addr) (ns : List Str) (n : Int), vs = [.ref b, .ref l, .int n] ∧ Sep G ((b, o) :: M) H ∧ Bag G o ∧ G l = some (.lst (ns.map V.str)) ∧ ns.length ≤ 100 ∧ 1 ≤ n ∧ n ≤ d ∧
  ∀ (v : V) (f : Gm) (o' : HO) (G' H' : Hp), Same G G' → GmAt K G' v f → f.ok ns → f.dep ≤ n → Bag G' o' → Sep G' ((b, o') :: M) H' → Q v H'
theorem ok_form (T : Top K mg w) {k : Nat} (G_pick : FnOk P w K mg base CX0 k T.a_pick T.d_pick ["_law_bag_here", "_law_many"] spPick) (G_choice : FnOk P w K mg base CX0 k T.a_choice T.d_choice ["_law_bag_here", "_law_things"] (spChoice K)) :
    ∀ d : Nat, FnOk P w K mg base CX0 (k + 1 + d) T.a_form T.d_form ["_law_bag_here", "_law_readable", "_law_levels"] (spForm K d)
  | 0 => fn_false fun vs H Q E h => by
    obtain ⟨G, M, b, o, l, xs, n, _, _, _, _, _, h1, h2, _⟩ := h
    omega
  | d + 1 => by
    have G_form := ok_form T G_pick G_choice d
    refine T.F_form.ok sc_form (fun vs H Q E h => ?_) (fun cdv A outer s H vs Q E hr h => ?_)
    · obtain ⟨G, M, b, o, l, xs, n, rfl, _⟩ := h
      rfl
    · obtain ⟨G, M, b, o, l, ns, n, rfl, S, B, hl, x1, n1, n2, q⟩ := h
      have hr : Room (k + 1 + d) (A.deeper (envOfC (Str.ofString "_law_form") (defScope s_form) s.heap.objs.size T.a_form cdv)) := hr
      refine ⟨_, (pss_cons (ps_set (i := 3) sc_form.nd rfl (.inl rfl) (pe_call G_pick (hr.mono (by omega)) (by rfl) T.g_pick T.F_pick.kp T.b_pick .nil pass0 (pa_cons (xv 0) (pa_cons pe_int pa_nil))))
      (pss_cons (xs_if (PW.pt (xw_or (xt_cmp op_leY (xv 2) pe_int (nomark _)) (pw_or1 (xt_cmp op_ltY (xv 3) pe_int (nomark _)))))
      (pss_cons (xs_if (PW.pt (xw_or (pt_not (xt_truK K (xv 1))) (pw_or1 (PW.pt (xw_and (xt_cmp (op_eqLK K hr.u190) (xv 3) pe_int (nomark _)) (pw_and1 (xt_cmp (op_eqLK K hr.u190) (pe_call G_pick (hr.mono (by omega)) (by rfl) T.g_pick T.F_pick.kp T.b_pick .nil pass0 (pa_cons (xv 0) (pa_cons pe_int pa_nil))) pe_int (nomark _))))))))
      (pss_one (ps_ret (pe_tup (pa_cons pe_str (pa_cons (pe_call G_pick (hr.mono (by omega)) (by rfl) T.g_pick T.F_pick.kp T.b_pick .nil pass0 (pa_cons (xv 0) (pa_cons pe_int pa_nil))) pa_nil)))))
      pss_nil)
      (pss_one (ps_ret (pe_tup (pa_cons pe_str (pa_cons (pe_call G_choice (hr.mono (by omega)) (by rfl) T.g_choice T.F_choice.kp T.b_choice .nil pass0 (pa_cons (xv 0) (pa_cons (xv 1) pa_nil))) pa_nil))))))
      pss_nil)
      (pss_cons (ps_set (i := 4) sc_form.nd rfl (.inl rfl) (pe_call G_form (hr.mono (by omega)) (by rfl) T.g_form T.F_form.kp T.b_form .nil pass0 (pa_cons (xv 0) (pa_cons (xv 1) (pa_cons (pe_op op_subY (xv 2) pe_int) pa_nil)))))
      (pss_cons (ps_set (i := 5) sc_form.nd rfl (.inl rfl) (pe_call G_form (hr.mono (by omega)) (by rfl) T.g_form T.F_form.kp T.b_form .nil pass0 (pa_cons (xv 0) (pa_cons (xv 1) (pa_cons (pe_op op_subY (xv 2) pe_int) pa_nil)))))
      (pss_cons (xs_if (xt_cmp op_ltY (xv 3) pe_int (nomark _))
      (pss_one (ps_ret (pe_tup (pa_cons (pe_ix (ix_k K) (pe_lst (pa_cons pe_str (pa_cons pe_str (pa_cons pe_str pa_nil)))) (pe_op op_subY (xv 3) pe_int) (fun _ _ => rfl)) (pa_cons (xv 4) (pa_cons (xv 5) pa_nil))))))
      pss_nil)
      (pss_one (ps_ret (pe_tup (pa_cons pe_str (pa_cons (xv 4) (pa_cons (xv 5) (pa_cons (pe_call G_form (hr.mono (by omega)) (by rfl) T.g_form T.F_form.kp T.b_form .nil pass0 (pa_cons (xv 0) (pa_cons (xv 1) (pa_cons (pe_op op_subY (xv 2) pe_int) pa_nil)))) pa_nil)))))))))))), ?_⟩
      have nml : (ns.map V.str).length = ns.length := List.length_map _
      refine ⟨G, M, b, o, 8, rfl, S, B, by decide, by decide, fun w1 o1 H1 w0 w8 B1 S1 => ?_⟩
      have isQ : ∀ o2 H2, Bag G o2 → Sep G ((b, o2) :: M) H2 → ∀ r : Int, 0 ≤ r → r < 10 → ∀ t, H2 t = none → Q (.ref t) (upd H2 t (.tup [.str "is", .int r])) := fun o2 H2 B2 S2 r r0 r1 t nt =>
        q _ (.is r) o2 _ _ (S2.grow nt) (.is (SqT.of upd_same)) ⟨r0, by omega⟩ n1 (B2.same (S2.grow nt)) (S2.newG nt)
      refine ⟨fun e1 => ⟨fun _ => ?_, tt⟩, fun e1 => ⟨fun e2 => ?_, fun e2 => ?_⟩⟩
      rotate_left 2
      · have n2' : ¬ n ≤ 1 := of_decide_eq_false e1
        have w3 : ¬ w1 < 3 := of_decide_eq_false e2
        refine ⟨G, M, b, o1, l, ns, n - 1, rfl, S1, B1, hl, x1, by omega, by omega, fun v1 f1 o2 G2 H2 s2 hf1 ok1 d1 B2 S2 => ?_⟩
        refine ⟨G2, M, b, o2, l, ns, n - 1, rfl, S2, B2, s2 _ _ hl, x1, by omega, by omega, fun v2 f2 o3 G3 H3 s3 hf2 ok2 d2 B3 S3 => ⟨fun e3 => ?_, fun e3 => ?_⟩⟩
        · have w6 : w1 < 6 := of_decide_eq_true e3
          refine ⟨sz, fun t0 nt0 => ?_⟩
          have S4 := S3.newG (o := .lst [.str "sum", .str "sum", .str "same"]) nt0
          have s4 := S3.grow (o := .lst [.str "sum", .str "sum", .str "same"]) nt0
          obtain rfl | rfl | rfl : w1 = 3 ∨ w1 = 4 ∨ w1 = 5 := by omega
          · refine ⟨_, _, .inl (SqL.of upd_same), rfl, sz, fun t nt => ?_⟩
            have s5 := s4.trans (S4.grow (o := .tup [.str "sum", v1, v2]) nt)
            exact q _ (.sum f1 f2) o3 _ _ (s2.trans (s3.trans s5)) (.sum (SqT.of upd_same) (hf1.same' (s3.trans s5)) (hf2.same' s5)) ⟨ok1, ok2⟩ (by simp only [Gm.dep]; omega) (B3.same s5) (S4.newG nt)
          · refine ⟨_, _, .inl (SqL.of upd_same), rfl, sz, fun t nt => ?_⟩
            have s5 := s4.trans (S4.grow (o := .tup [.str "sum", v1, v2]) nt)
            exact q _ (.sum f1 f2) o3 _ _ (s2.trans (s3.trans s5)) (.sum (SqT.of upd_same) (hf1.same' (s3.trans s5)) (hf2.same' s5)) ⟨ok1, ok2⟩ (by simp only [Gm.dep]; omega) (B3.same s5) (S4.newG nt)
          · refine ⟨_, _, .inl (SqL.of upd_same), rfl, sz, fun t nt => ?_⟩
            have s5 := s4.trans (S4.grow (o := .tup [.str "same", v1, v2]) nt)
            exact q _ (.same f1 f2) o3 _ _ (s2.trans (s3.trans s5)) (.same (SqT.of upd_same) (hf1.same' (s3.trans s5)) (hf2.same' s5)) ⟨ok1, ok2⟩ (by simp only [Gm.dep]; omega) (B3.same s5) (S4.newG nt)
        · refine ⟨G3, M, b, o3, l, ns, n - 1, rfl, S3, B3, (s2.trans s3) _ _ hl, x1, by omega, by omega, fun v3 f3 o4 G4 H4 s4 hf3 ok3 d3 B4 S4 => ⟨sz, fun t nt => ?_⟩⟩
          have s5 := S4.grow (o := .tup [.str "pick", v1, v2, v3]) nt
          exact q _ (.pick f1 f2 f3) o4 _ _ (s2.trans (s3.trans (s4.trans s5))) (.pick (SqT.of upd_same) (hf1.same' (s3.trans (s4.trans s5))) (hf2.same' (s4.trans s5)) (hf3.same' s5)) ⟨ok1, ok2, ok3⟩ (by simp only [Gm.dep]; omega) (B4.same s5) (S4.newG nt)
      all_goals
        have getQ : ∀ o2 H2, Bag G o2 → Sep G ((b, o2) :: M) H2 → ∀ v, v ∈ ns.map V.str → ∀ t, H2 t = none → Q (.ref t) (upd H2 t (.tup [.str "get", v])) := fun o2 H2 B2 S2 v hv t nt => by
          obtain ⟨z, hz, rfl⟩ := List.mem_map.mp hv
          exact q _ (.get z) o2 _ _ (S2.grow nt) (.get (SqT.of upd_same)) hz n1 (B2.same (S2.grow nt)) (S2.newG nt)
        refine ⟨!(ns.map V.str).isEmpty, .inl ⟨_, SqL.of (S1.st hl), rfl⟩, fun _ => ?_, fun e => ?_⟩
        · exact ⟨fun _ => ⟨G, M, b, o1, 10, rfl, S1, B1, by decide, by decide, fun r3 o3 H3 r30 r31 B3 S3 => ⟨sz, fun t nt => isQ o3 H3 B3 S3 r3 r30 r31 t nt⟩⟩, tt⟩
        have x0 : 0 < ns.length := by
          cases ns with
          | nil => exact nomatch e
          | cons _ _ => simp
        refine ⟨fun _ => ?_, fun _ => ⟨ff, fun _ => ?_⟩⟩
        · refine ⟨G, M, b, o1, 2, rfl, S1, B1, by decide, by decide, fun r2 o2 H2 _ _ B2 S2 => ⟨fun _ => ?_, fun _ => ?_⟩⟩
          · exact ⟨G, M, b, o2, 10, rfl, S2, B2, by decide, by decide, fun r3 o3 H3 r30 r31 B3 S3 => ⟨sz, fun t nt => isQ o3 H3 B3 S3 r3 r30 r31 t nt⟩⟩
          · exact ⟨G, M, b, o2, l, _, rfl, S2, B2, SqL.of hl, by omega, by omega, fun v o3 H3 hv B3 S3 => ⟨sz, fun t nt => getQ o3 H3 B3 S3 v hv t nt⟩⟩
        · exact ⟨G, M, b, o1, l, _, rfl, S1, B1, SqL.of hl, by omega, by omega, fun v o3 H3 hv B3 S3 => ⟨sz, fun t nt => getQ o3 H3 B3 S3 v hv t nt⟩⟩
def spValue (K : PySem.W.Frag) (d : Nat) : Sp := fun vs H Q _ => ∃ (v : V) (f : Gm) (a : Addr) (ns : List Str) (e : Str → Int), vs = [v, .ref a] ∧ GmAt K H v f ∧ f.ok ns ∧ f.dep ≤ d ∧ H a = some (.dK (dk ns e)) ∧ Q (.int (f.val e)) H
theorem ok_value (T : Top K mg w) : ∀ d : Nat, FnOk P w K mg base CX0 (d + 1) T.a_value T.d_value ["_law_form_here", "_law_worths"] (spValue K d)
  | 0 => fn_false fun vs H Q E h => by
    obtain ⟨v, f, a, ns, e, _, _, _, hd, _⟩ := h
    have := f.dep_pos
    omega
  | d + 1 => by
    have G_value := ok_value T d
    refine T.F_value.ok sc_value (fun vs H Q E h => ?_) (fun cdv A outer s H vs Q E hr h => ?_)
    · obtain ⟨v, f, a, ns, e, rfl, _⟩ := h
      rfl
    · obtain ⟨v, f, a, ns, e, rfl, hf, ok, hd, he, q⟩ := h
      refine ⟨_, (pss_cons (ps_set (i := 2) sc_value.nd rfl (.inl rfl) (pe_ix (ix_k K) (xv 0) pe_int (fun _ _ => rfl)))
      (pss_cons (xs_if (PW.pt (xw_or (xt_cmp (op_eqLK K hr.u190) (xv 2) pe_str (nomark _)) (pw_or1 (xt_cmp (op_eqLK K hr.u190) (xv 2) pe_str (nomark _)))))
      (pss_one (ps_ret (xe_if (xt_cmp (op_eqLK K hr.u190) (xv 2) pe_str (nomark _)) (pe_ix (ix_k K) (xv 0) pe_int (fun _ _ => rfl)) (pe_dget (hu_of hr) (xv 1) (pe_ix (ix_k K) (xv 0) pe_int (fun _ _ => rfl)) (fun _ _ => rfl)))))
      pss_nil)
      (pss_cons (ps_set (i := 3) sc_value.nd rfl (.inl rfl) (pe_call G_value (hr.mono (by omega)) (by rfl) T.g_value T.F_value.kp T.b_value .nil pass0 (pa_cons (pe_ix (ix_k K) (xv 0) pe_int (fun _ _ => rfl)) (pa_cons (xv 1) pa_nil))))
      (pss_cons (xs_if (xt_cmp (op_eqLK K hr.u190) (xv 2) pe_str (nomark _))
      (pss_one (ps_ret (pe_call G_value (hr.mono (by omega)) (by rfl) T.g_value T.F_value.kp T.b_value .nil pass0 (pa_cons (xe_if (xt_cmp (op_neLK K hr.u190) (xv 3) pe_int (nomark _)) (pe_ix (ix_k K) (xv 0) pe_int (fun _ _ => rfl)) (pe_ix (ix_k K) (xv 0) pe_int (fun _ _ => rfl))) (pa_cons (xv 1) pa_nil)))))
      pss_nil)
      (pss_cons (ps_set (i := 4) sc_value.nd rfl (.inl rfl) (pe_call G_value (hr.mono (by omega)) (by rfl) T.g_value T.F_value.kp T.b_value .nil pass0 (pa_cons (pe_ix (ix_k K) (xv 0) pe_int (fun _ _ => rfl)) (pa_cons (xv 1) pa_nil))))
      (pss_one (ps_ret (xe_if (xt_cmp (op_eqLK K hr.u190) (xv 2) pe_str (nomark _)) (pe_op op_modY (pe_callTy cr_int (by rfl) T.m_int (by decide +kernel) (pa_cons (pe_op op_addY (xv 3) (xv 4)) pa_nil)) pe_int) (pe_callTy cr_int (by rfl) T.m_int (by decide +kernel) (pa_cons (pe_cmpR (op_eqLK K hr.u190) (xv 3) (xv 4) (nomark _)) pa_nil)))))))))), ?_⟩
      cases hf with
      | is h1 => exact ⟨_, _, .inr h1, rfl, fun _ => ⟨fun _ => ⟨fun _ => ⟨_, _, .inr h1, rfl, q⟩, we⟩, tt⟩, we⟩
      | @get p x h1 =>
        exact ⟨_, _, .inr h1, rfl, fun e => wd e, fun _ => ⟨fun _ => ⟨fun e => wd e, fun _ => ⟨_, _, .inr h1, rfl, a, _, rfl, dk_get he ok, q⟩⟩, we⟩⟩
      | sum h1 h2 h3 =>
        have e1 : (Gm.sum _ _).dep ≤ d + 1 := hd
        simp only [Gm.dep] at e1
        refine ⟨_, _, .inr h1, rfl, fun e => wd e, fun _ => ⟨fun e => wd e, fun _ => ?_⟩⟩
        refine ⟨_, _, .inr h1, rfl, _, _, a, ns, e, rfl, h2, ok.1, by omega, he, fun e => wd e, fun _ => ?_⟩
        refine ⟨_, _, .inr h1, rfl, _, _, a, ns, e, rfl, h3, ok.2, by omega, he, ?_⟩
        exact ⟨fun _ => ⟨by decide, fun r hr _ _ => hr ▸ q⟩, we⟩
      | same h1 h2 h3 =>
        have e1 : (Gm.same _ _).dep ≤ d + 1 := hd
        simp only [Gm.dep] at e1
        refine ⟨_, _, .inr h1, rfl, fun e => wd e, fun _ => ⟨fun e => wd e, fun _ => ?_⟩⟩
        refine ⟨_, _, .inr h1, rfl, _, _, a, ns, e, rfl, h2, ok.1, by omega, he, fun e => wd e, fun _ => ?_⟩
        refine ⟨_, _, .inr h1, rfl, _, _, a, ns, e, rfl, h3, ok.2, by omega, he, ?_⟩
        refine ⟨fun e => wd e, fun _ => ?_⟩
        simp only [Gm.val] at q
        have e2 : ∀ x y : Int, (if decide (x = y) = true then (1 : Int) else 0) = if x = y then 1 else 0 := fun x y => by by_cases h : x = y <;> simp [h]
        rw [← e2] at q
        exact q
      | pick h1 h2 h3 h4 =>
        have e1 : (Gm.pick _ _ _).dep ≤ d + 1 := hd
        simp only [Gm.dep] at e1
        refine ⟨_, _, .inr h1, rfl, fun e => wd e, fun _ => ⟨fun e => wd e, fun _ => ?_⟩⟩
        refine ⟨_, _, .inr h1, rfl, _, _, a, ns, e, rfl, h2, ok.1, by omega, he, fun _ => ?_, we⟩
        refine ⟨fun e2 => ?_, fun e2 => ?_⟩
        · refine ⟨_, _, .inr h1, rfl, _, _, a, ns, e, rfl, h3, ok.2.1, by omega, he, ?_⟩
          simp only [Gm.val] at q
          rw [if_neg (by simpa using e2)] at q
          exact q
        · refine ⟨_, _, .inr h1, rfl, _, _, a, ns, e, rfl, h4, ok.2.2, by omega, he, ?_⟩
          simp only [Gm.val] at q
          rw [if_pos (by simpa using e2)] at q
          exact q


end
end K43
set_option Elab.async false
set_option linter.all false
set_option maxRecDepth 100000
set_option maxHeartbeats 4000000
namespace K43
open PySem PySem.Spec PyProof.Rows L2 XL
section
variable {P : Program} {w : World} {K : PySem.W.Frag} {mg : Str → Option Value} {base : Heap}
theorem wn {a b : Str} {A : Prop} (h : (!decide (a = b)) = false) (n : decide (a = b) = false := by decide +kernel) : A := by rw [n] at h; cases h
theorem wm {a : Str} {A : Prop} (h : (!decide (a = a)) = true) : A := by rw [decide_eq_true rfl] at h; cases h
theorem at0 {x : V} {r : List V} : atI (x :: r) 0 = some x := atI_nat (j := 0) rfl
def Gm.size : Gm → Nat
  | .is _ => 1
  | .get _ => 1
  | .sum a b => a.size + b.size + 1
  | .same a b => a.size + b.size + 1
  | .pick a b c => a.size + b.size + c.size + 1
theorem Gm.size_pos (f : Gm) : 0 < f.size := by cases f <;> simp [Gm.size]
/-- the children of a form that is no leaf -/
def Kid (K : PySem.W.Frag) (ns : List Str) (G : Hp) (n : Nat) (v : V) (c : Gm) : Prop := GmAt K G v c ∧ c.ok ns ∧ c.dep < n
def sizes : List Gm → Nat
  | [] => 0
  | c :: r => c.size + sizes r
theorem GmAt.kids {K : PySem.W.Frag} {ns : List Str} {G : Hp} {v : V} {f : Gm} (h : GmAt K G v f) (ok : f.ok ns) : (∃ p n, v = .ref p ∧ SqT K G p [.str "is", .int n] ∧ f = .is n) ∨ (∃ p x, v = .ref p ∧ SqT K G p [.str "get", .str x] ∧ f = .get x) ∨
    ∃ (p : Addr) (u : Str) (vs : List V) (cs : List Gm), v = .ref p ∧ SqT K G p (.str u :: vs) ∧ Paired (Kid K ns G f.dep) vs cs ∧ decide (u = "is") = false ∧ decide (u = "get") = false ∧ sizes cs + 1 = f.size ∧ 1 ≤ vs.length ∧ vs.length ≤ 3 := by
  cases h with
  | is h => exact .inl ⟨_, _, rfl, h, rfl⟩
  | get h => exact .inr (.inl ⟨_, _, rfl, h, rfl⟩)
  | @sum p v1 v2 a b h h1 h2 =>
    refine .inr (.inr ⟨p, "sum", [v1, v2], [a, b], rfl, h, .cons ⟨h1, ok.1, ?_⟩ (.cons ⟨h2, ok.2, ?_⟩ .nil), by decide +kernel, by decide +kernel, ?_, by simp, by simp⟩)
    · simp only [Gm.dep]; omega
    · simp only [Gm.dep]; omega
    · simp only [sizes, Gm.size]; omega
  | @same p v1 v2 a b h h1 h2 =>
    refine .inr (.inr ⟨p, "same", [v1, v2], [a, b], rfl, h, .cons ⟨h1, ok.1, ?_⟩ (.cons ⟨h2, ok.2, ?_⟩ .nil), by decide +kernel, by decide +kernel, ?_, by simp, by simp⟩)
    · simp only [Gm.dep]; omega
    · simp only [Gm.dep]; omega
    · simp only [sizes, Gm.size]; omega
  | @pick p v1 v2 v3 a b c h h1 h2 h3 =>
    refine .inr (.inr ⟨p, "pick", [v1, v2, v3], [a, b, c], rfl, h, .cons ⟨h1, ok.1, ?_⟩ (.cons ⟨h2, ok.2.1, ?_⟩ (.cons ⟨h3, ok.2.2, ?_⟩ .nil)), by decide +kernel, by decide +kernel, ?_, by simp, by simp⟩)
    · simp only [Gm.dep]; omega
    · simp only [Gm.dep]; omega
    · simp only [Gm.dep]; omega
    · simp only [sizes, Gm.size]; omega
theorem Kid.same {K : PySem.W.Frag} {ns : List Str} {G G' : Hp} (e : Same G G') {n : Nat} {v : V} {c : Gm} (h : Kid K ns G n v c) : Kid K ns G' n v c := ⟨h.1.same' e, h.2⟩
theorem Gm.size_le (f : Gm) : f.size + 1 ≤ 3 ^ f.dep * 2 := by
  induction f with
  | is n => simp [Gm.size, Gm.dep]
  | get x => simp [Gm.size, Gm.dep]
  | sum a b ha hb =>
    simp only [Gm.size, Gm.dep]
    have h1 : 3 ^ a.dep ≤ 3 ^ max a.dep b.dep := Nat.pow_le_pow_right (by decide) (Nat.le_max_left _ _)
    have h2 : 3 ^ b.dep ≤ 3 ^ max a.dep b.dep := Nat.pow_le_pow_right (by decide) (Nat.le_max_right _ _)
    have h3 : 3 ^ (max a.dep b.dep + 1) = 3 ^ max a.dep b.dep * 3 := Nat.pow_succ ..
    omega
  | same a b ha hb =>
    simp only [Gm.size, Gm.dep]
    have h1 : 3 ^ a.dep ≤ 3 ^ max a.dep b.dep := Nat.pow_le_pow_right (by decide) (Nat.le_max_left _ _)
    have h2 : 3 ^ b.dep ≤ 3 ^ max a.dep b.dep := Nat.pow_le_pow_right (by decide) (Nat.le_max_right _ _)
    have h3 : 3 ^ (max a.dep b.dep + 1) = 3 ^ max a.dep b.dep * 3 := Nat.pow_succ ..
    omega
  | pick a b c ha hb hc =>
    simp only [Gm.size, Gm.dep]
    have h1 : 3 ^ a.dep ≤ 3 ^ max a.dep (max b.dep c.dep) := Nat.pow_le_pow_right (by decide) (Nat.le_max_left _ _)
    have h2 : 3 ^ b.dep ≤ 3 ^ max a.dep (max b.dep c.dep) := Nat.pow_le_pow_right (by decide) (by omega)
    have h2' : 3 ^ c.dep ≤ 3 ^ max a.dep (max b.dep c.dep) := Nat.pow_le_pow_right (by decide) (by omega)
    have h3 : 3 ^ (max a.dep (max b.dep c.dep) + 1) = 3 ^ max a.dep (max b.dep c.dep) * 3 := Nat.pow_succ ..
    omega
theorem Gm.size5 {f : Gm} (h : f.dep ≤ 5) : f.size ≤ 485 := by
  have h1 := f.size_le
  have h2 : 3 ^ f.dep ≤ 3 ^ 5 := Nat.pow_le_pow_right (by decide) h
  have h3 : 3 ^ 5 = 243 := rfl
  omega
def spNumberIn : Sp := fun vs H Q _ => ∃ i l h : Int, vs = [.int i, .int l, .int h] ∧ l ≤ i ∧ i ≤ h ∧ Q (.bl true) H
theorem ok_is_number (T : Top K mg w) {k : Nat} : FnOk P w K mg base CX0 (k + 1) T.a_is_number T.d_is_number ["thing", "low", "high"] spNumberIn := by
  refine T.F_is_number.ok sc_is_number (fun vs H Q E h => ?_) (fun cdv A outer s H vs Q E hr h => ?_)
  · obtain ⟨i, l, h', rfl, _⟩ := h
    rfl
  · obtain ⟨i, l, h', rfl, h1, h2, q⟩ := h
    refine ⟨_, (pss_one (ps_ret (xe_and (pe_callB (call_isK K) (by rfl) T.m_isinstance (by decide +kernel) (pa_cons (xv 0) (pa_cons (pe_bltn (v := .ty "int") (by rfl) T.m_int (by decide +kernel) rfl) pa_nil))) (xe_and (xe_not (pe_callB (call_isK K) (by rfl) T.m_isinstance (by decide +kernel) (pa_cons (xv 0) (pa_cons (pe_bltn (v := .ty "bool") (by rfl) T.m_bool (by decide +kernel) rfl) pa_nil)))) (pe_one (xe_chain op_leY op_leY (xv 1) (xv 0) (xv 2))))))), ?_⟩
    refine ⟨_, _, _, _, true, rfl, .ty _, .base (.int _), kit_ty (by decide +kernel), fun _ => ⟨_, _, _, _, false, rfl, .ty _, .base (.int _), kit_ty (by decide +kernel), fun _ => ?_, tt⟩, tt⟩
    refine ⟨fun _ => ?_, fun e => absurd h1 (of_decide_eq_false e)⟩
    have e : decide (i ≤ h') = true := decide_eq_true h2
    show Q (.bl (decide (i ≤ h'))) H
    rw [e]
    exact q
def spName : Sp := fun vs H Q _ => ∃ (G : Hp) (M : List (Addr × HO)) (x : Str), vs = [.str x] ∧ Sep G M H ∧ Lt 1 8 x ∧ ∀ G' H', Same G G' → Sep G' M H' → Q (.bl true) H'
theorem ok_is_name (T : Top K mg w) {k : Nat} : FnOk P w K mg base CX0 (k + 1) T.a_is_name T.d_is_name ["thing"] spName := by
  refine T.F_is_name.ok sc_is_name (fun vs H Q E h => ?_) (fun cdv A outer s H vs Q E hr h => ?_)
  · obtain ⟨G, M, x, rfl, _⟩ := h
    rfl
  · obtain ⟨G, M, x, rfl, S, hx, q⟩ := h
    refine ⟨_, (pss_cons (xs_if (PW.pt (xw_or (pt_not (xt_truK K (pe_callB (call_isK K) (by rfl) T.m_isinstance (by decide +kernel) (pa_cons (xv 0) (pa_cons (pe_bltn (v := .ty "str") (by rfl) T.m_str (by decide +kernel) rfl) pa_nil))))) (xw_or (xt_cmp op_ltY (pe_callB (cr_lenK K) (by rfl) T.m_len (by decide +kernel) (pa_cons (xv 0) pa_nil)) pe_int (nomark _)) (pw_or1 (xt_cmp op_gtY (pe_callB (cr_lenK K) (by rfl) T.m_len (by decide +kernel) (pa_cons (xv 0) pa_nil)) pe_int (nomark _))))))
      (pss_one (ps_ret pe_bl))
      pss_nil)
      (pss_one (ps_ret (pe_callB (cr_allK K rfl) (by rfl) T.m_all (by decide +kernel) (pa_cons (pe_lc (own := [("sign", 1)]) (by rfl) sc_is_name.nd (pi_str (xv 0)) (blkOk_by (N := ["thing", "sign"]) (sc := defScope s_is_name) (by decide +kernel)) (fun _ _ _ _ _ => (pg_name (i := 1) sc_is_name.nd rfl (.inl rfl))) (fun _ _ _ _ _ => pts_nil) (fun _ _ _ _ _ => (pe_cmpR op_in_sign (xv 1) (xe_glob (by rfl) T.v_LETTERS) (by rfl)))) pa_nil))))), ?_⟩
    have hl1 := hx.lo
    have hl2 := hx.hi
    have hz : x.length ≤ sizeLine := small (by omega)
    refine ⟨_, _, _, _, true, rfl, .ty _, .base (.str _), kit_ty (by decide +kernel), ff, fun _ => ⟨hz, fun e => ?_, fun _ => ⟨hz, fun e => ?_, fun _ => ?_⟩⟩⟩
    · have z := of_decide_eq_true e
      omega
    · have z : (8 : Int) < x.length := of_decide_eq_true e
      omega
    · refine ⟨x, rfl, fun L nL => lc_it (walk_str (z := x)) (fun i H' => Sep G ((L, .lst (List.replicate i (V.bl true))) :: M) H') (S.new nL) (fun _ _ _ _ => trivial) (fun i v H1 H' hi p y => ?_) (fun H' S1 => ?_)⟩
      · obtain ⟨rfl, c, hc, rfl⟩ := y
        refine ⟨rfl, c, _, rfl, rfl, _, p.hd, ?_, ?_⟩
        · rw [List.length_replicate]
          exact smallL (by have z : x.cps.size = x.length := rfl; omega)
        · have hm : decide (c ∈ ("abcdefghijklmnopqrstuvwxyz" : Str).cps.toList) = true := decide_eq_true (hx.ch c (by
            rw [Array.mem_toList_iff]
            exact Array.mem_of_getElem? hc))
          rw [hm, List.replicate_succ']
          exact p.set
      · refine ⟨L, List.replicate x.cps.size true, rfl, ?_, ?_⟩
        · rw [List.map_replicate]
          exact SqL.of S1.hd
        · have e : (List.replicate x.cps.size true).all id = true := by simp
          rw [e]
          exact q _ _ S1.frzS S1.frz
def spPart (K : PySem.W.Frag) : Sp := fun vs H Q _ => ∃ (G : Hp) (M : List (Addr × HO)) (v : V) (f : Gm) (ns : List Str), vs = [v] ∧ (∀ z ∈ ns, Lt 1 8 z) ∧ Sep G M H ∧ GmAt K G v f ∧ f.ok ns ∧ ∀ G' H', Same G G' → Sep G' M H' → Q (.bl true) H'
theorem ok_is_part (T : Top K mg w) {k : Nat} (G_is_number : FnOk P w K mg base CX0 (k + 1) T.a_is_number T.d_is_number ["thing", "low", "high"] spNumberIn) (G_is_name : FnOk P w K mg base CX0 (k + 1) T.a_is_name T.d_is_name ["thing"] spName) :
    FnOk P w K mg base CX0 (k + 2) T.a_is_part T.d_is_part ["part"] (spPart K) := by
  refine T.F_is_part.ok sc_is_part (fun vs H Q E h => ?_) (fun cdv A outer s H vs Q E hr h => ?_)
  · obtain ⟨G, M, v, f, ns, rfl, _⟩ := h
    rfl
  · obtain ⟨G, M, v, f, ns, rfl, lt, S, hf, ok, q⟩ := h
    refine ⟨_, (pss_cons (xs_if (PW.pt (xw_or (pt_not (xt_truK K (pe_callB (call_isK K) (by rfl) T.m_isinstance (by decide +kernel) (pa_cons (xv 0) (pa_cons (pe_bltn (v := .ty "tuple") (by rfl) T.m_tuple (by decide +kernel) rfl) pa_nil))))) (pw_or1 (xt_cmp (op_eqLK K hr.u190) (pe_callB (cr_lenK K) (by rfl) T.m_len (by decide +kernel) (pa_cons (xv 0) pa_nil)) pe_int (nomark _)))))
      (pss_one (ps_ret pe_bl))
      pss_nil)
      (pss_cons (xs_if (PW.pt (xw_or (pt_not (xt_truK K (pe_callB (call_isK K) (by rfl) T.m_isinstance (by decide +kernel) (pa_cons (pe_ix (ix_k K) (xv 0) pe_int (fun _ _ => rfl)) (pa_cons (pe_bltn (v := .ty "str") (by rfl) T.m_str (by decide +kernel) rfl) pa_nil))))) (pw_or1 (xt_cmp (op_notIn_kd ⟨T.l_COUNTS, T.q_COUNTS, T.w_COUNTS⟩) (pe_ix (ix_k K) (xv 0) pe_int (fun _ _ => rfl)) (pe_glob (v := .ref T.D_COUNTS) (by rfl) T.g_COUNTS rfl) (by rfl)))))
      (pss_one (ps_ret pe_bl))
      pss_nil)
      (pss_cons (xs_if (xt_cmp (op_neLK K hr.u190) (pe_callB (cr_lenK K) (by rfl) T.m_len (by decide +kernel) (pa_cons (xv 0) pa_nil)) (pe_ix ix_kdict (pe_glob (v := .ref T.D_COUNTS) (by rfl) T.g_COUNTS rfl) (pe_ix (ix_k K) (xv 0) pe_int (fun _ _ => rfl)) (fun _ _ => rfl)) (nomark _))
      (pss_one (ps_ret pe_bl))
      pss_nil)
      (pss_cons (xs_if (xt_cmp (op_eqLK K hr.u190) (pe_ix (ix_k K) (xv 0) pe_int (fun _ _ => rfl)) pe_str (nomark _))
      (pss_one (ps_ret (pe_call G_is_number (hr.mono (by omega)) (by rfl) T.g_is_number T.F_is_number.kp T.b_is_number .nil pass0 (pa_cons (pe_ix (ix_k K) (xv 0) pe_int (fun _ _ => rfl)) (pa_cons pe_int (pa_cons pe_int pa_nil))))))
      pss_nil)
      (pss_cons (xs_if (xt_cmp (op_eqLK K hr.u190) (pe_ix (ix_k K) (xv 0) pe_int (fun _ _ => rfl)) pe_str (nomark _))
      (pss_one (ps_ret (pe_call G_is_name (hr.mono (by omega)) (by rfl) T.g_is_name T.F_is_name.kp T.b_is_name .nil pass0 (pa_cons (pe_ix (ix_k K) (xv 0) pe_int (fun _ _ => rfl)) pa_nil))))
      pss_nil)
      (pss_one (ps_ret pe_bl))))))), ?_⟩
    have sr := Same.refl G
    cases hf with
    | is hp =>
      have h1 := S.t hp
      obtain ⟨t0, k0⟩ := T.k_COUNTS_0
      refine ⟨_, _, _, _, true, rfl, .ty _, sqT_ty (S.t hp), kit_ty (by decide +kernel), ff, fun _ => ⟨_, .inr h1, fun e => (nomatch e), fun _ => ?_⟩⟩
      refine ⟨_, _, .inr h1, rfl, _, _, _, _, true, rfl, .ty _, .base (.str _), kit_ty (by decide +kernel), ff, fun _ => ⟨_, _, .inr h1, rfl, _, _, rfl, rfl, k0, ff, fun _ => ?_⟩⟩
      refine ⟨_, .inr h1, _, _, .inr h1, rfl, _, _, .int 2, rfl, rfl, ⟨_, _, _, T.l_COUNTS, T.q_COUNTS, k0, ⟨_, rfl⟩⟩, fun e => (nomatch e), fun _ => ?_⟩
      refine ⟨_, _, .inr h1, rfl, fun _ => ⟨_, _, .inr h1, rfl, _, _, _, rfl, ok.1, ok.2, q G H sr S⟩, we⟩
    | get hp =>
      have h1 := S.t hp
      obtain ⟨t0, k0⟩ := T.k_COUNTS_1
      refine ⟨_, _, _, _, true, rfl, .ty _, sqT_ty (S.t hp), kit_ty (by decide +kernel), ff, fun _ => ⟨_, .inr h1, fun e => (nomatch e), fun _ => ?_⟩⟩
      refine ⟨_, _, .inr h1, rfl, _, _, _, _, true, rfl, .ty _, .base (.str _), kit_ty (by decide +kernel), ff, fun _ => ⟨_, _, .inr h1, rfl, _, _, rfl, rfl, k0, ff, fun _ => ?_⟩⟩
      refine ⟨_, .inr h1, _, _, .inr h1, rfl, _, _, .int 2, rfl, rfl, ⟨_, _, _, T.l_COUNTS, T.q_COUNTS, k0, ⟨_, rfl⟩⟩, fun e => (nomatch e), fun _ => ?_⟩
      refine ⟨_, _, .inr h1, rfl, fun e => wd e, fun _ => ⟨_, _, .inr h1, rfl, fun _ => ⟨_, _, .inr h1, rfl, G, M, _, rfl, S, lt _ ok, q⟩, we⟩⟩
    | sum hp h2 h3 =>
      have h1 := S.t hp
      obtain ⟨t0, k0⟩ := T.k_COUNTS_2
      refine ⟨_, _, _, _, true, rfl, .ty _, sqT_ty (S.t hp), kit_ty (by decide +kernel), ff, fun _ => ⟨_, .inr h1, fun e => (nomatch e), fun _ => ?_⟩⟩
      refine ⟨_, _, .inr h1, rfl, _, _, _, _, true, rfl, .ty _, .base (.str _), kit_ty (by decide +kernel), ff, fun _ => ⟨_, _, .inr h1, rfl, _, _, rfl, rfl, k0, ff, fun _ => ?_⟩⟩
      refine ⟨_, .inr h1, _, _, .inr h1, rfl, _, _, .int 3, rfl, rfl, ⟨_, _, _, T.l_COUNTS, T.q_COUNTS, k0, ⟨_, rfl⟩⟩, fun e => (nomatch e), fun _ => ?_⟩
      refine ⟨_, _, .inr h1, rfl, fun e => wd e, fun _ => ⟨_, _, .inr h1, rfl, fun e => wd e, fun _ => q G H sr S⟩⟩
    | same hp h2 h3 =>
      have h1 := S.t hp
      obtain ⟨t0, k0⟩ := T.k_COUNTS_3
      refine ⟨_, _, _, _, true, rfl, .ty _, sqT_ty (S.t hp), kit_ty (by decide +kernel), ff, fun _ => ⟨_, .inr h1, fun e => (nomatch e), fun _ => ?_⟩⟩
      refine ⟨_, _, .inr h1, rfl, _, _, _, _, true, rfl, .ty _, .base (.str _), kit_ty (by decide +kernel), ff, fun _ => ⟨_, _, .inr h1, rfl, _, _, rfl, rfl, k0, ff, fun _ => ?_⟩⟩
      refine ⟨_, .inr h1, _, _, .inr h1, rfl, _, _, .int 3, rfl, rfl, ⟨_, _, _, T.l_COUNTS, T.q_COUNTS, k0, ⟨_, rfl⟩⟩, fun e => (nomatch e), fun _ => ?_⟩
      refine ⟨_, _, .inr h1, rfl, fun e => wd e, fun _ => ⟨_, _, .inr h1, rfl, fun e => wd e, fun _ => q G H sr S⟩⟩
    | pick hp h2 h3 h4 =>
      have h1 := S.t hp
      obtain ⟨t0, k0⟩ := T.k_COUNTS_4
      refine ⟨_, _, _, _, true, rfl, .ty _, sqT_ty (S.t hp), kit_ty (by decide +kernel), ff, fun _ => ⟨_, .inr h1, fun e => (nomatch e), fun _ => ?_⟩⟩
      refine ⟨_, _, .inr h1, rfl, _, _, _, _, true, rfl, .ty _, .base (.str _), kit_ty (by decide +kernel), ff, fun _ => ⟨_, _, .inr h1, rfl, _, _, rfl, rfl, k0, ff, fun _ => ?_⟩⟩
      refine ⟨_, .inr h1, _, _, .inr h1, rfl, _, _, .int 4, rfl, rfl, ⟨_, _, _, T.l_COUNTS, T.q_COUNTS, k0, ⟨_, rfl⟩⟩, fun e => (nomatch e), fun _ => ?_⟩
      refine ⟨_, _, .inr h1, rfl, fun e => wd e, fun _ => ⟨_, _, .inr h1, rfl, fun e => wd e, fun _ => q G H sr S⟩⟩
/-! ### check_form -/
def Wt (K : PySem.W.Frag) (ns : List Str) (G : Hp) (v : V) (c : Gm × Int) : Prop := ∃ (t : Addr) (u : V), v = .ref t ∧ G t = some (.tup [u, .int c.2]) ∧ GmAt K G u c.1 ∧ c.1.ok ns ∧ c.2 + c.1.dep ≤ 6
theorem Wt.same {K : PySem.W.Frag} {ns : List Str} {G G' : Hp} (e : Same G G') {v : V} {c : Gm × Int} (h : Wt K ns G v c) : Wt K ns G' v c := by
  obtain ⟨t, u, h1, h2, h3, h4⟩ := h
  exact ⟨t, u, h1, e _ _ h2, h3.same' e, h4⟩
def wsz : List (Gm × Int) → Nat
  | [] => 0
  | c :: r => c.1.size + wsz r
theorem wsz_app : ∀ (a b : List (Gm × Int)), wsz (a ++ b) = wsz a + wsz b
  | [], b => by simp [wsz]
  | c :: r, b => by simp only [List.cons_append, wsz, wsz_app r b]; omega
theorem wsz_len : ∀ (a : List (Gm × Int)), a.length ≤ wsz a
  | [] => by simp
  | c :: r => by
    have h1 := wsz_len r
    have h2 := c.1.size_pos
    simp only [List.length_cons, wsz]
    omega
theorem sizes_rev : ∀ (cs : List Gm) (l : Int), wsz (cs.reverse.map fun c => (c, l)) = sizes cs
  | [], _ => rfl
  | c :: r, l => by
    rw [List.reverse_cons, List.map_append, wsz_app, sizes_rev r l]
    simp only [List.map_cons, List.map_nil, wsz, sizes]
    omega
def spCheck (K : PySem.W.Frag) : Sp := fun vs H Q _ => ∃ (G : Hp) (M : List (Addr × HO)) (v : V) (f : Gm) (ns : List Str), vs = [v] ∧ (∀ z ∈ ns, Lt 1 8 z) ∧ Sep G M H ∧ GmAt K G v f ∧ f.ok ns ∧ f.dep ≤ 5 ∧ ∀ G' H', Same G G' → Sep G' M H' → Q .non H'
theorem ok_check_form (T : Top K mg w) {k : Nat} (G_is_part : FnOk P w K mg base CX0 k T.a_is_part T.d_is_part ["part"] (spPart K)) :
    FnOk P w K mg base CX0 (k + 1) T.a_check_form T.d_check_form ["parts"] (spCheck K) := by
  refine T.F_check_form.ok sc_check_form (fun vs H Q E h => ?_) (fun cdv A outer s H vs Q E hr h => ?_)
  · obtain ⟨G, M, v, f, nl, rfl, _⟩ := h
    rfl
  · obtain ⟨G, M, v, f, nl, rfl, lt, S, hf, ok, hd, q⟩ := h
    refine ⟨_, (pss_cons (ps_set (i := 1) sc_check_form.nd rfl (.inl rfl) (pe_lst (pa_cons (pe_tup (pa_cons (xv 0) (pa_cons pe_int pa_nil))) pa_nil)))
      (pss_cons (ps_set (i := 2) sc_check_form.nd rfl (.inl rfl) pe_int)
      (pss_cons (xs_while PassesOwn.never (xt_truK K (xv 1))
      (pss_cons (ps_asg (pe_bm0 PySem.F.plainAttrs_list PySem.F.slot_list_pop PySem.F.type_list_pop mt_pop (xv 1)) (pg_tupK K 2 (pgs_cons (pg_name (i := 3) sc_check_form.nd rfl (.inl rfl)) (pgs_cons (pg_name (i := 4) sc_check_form.nd rfl (.inl rfl)) pgs_nil))))
      (pss_cons (xs_if (pt_not (xt_truK K (pe_call G_is_part (hr.mono (by omega)) (by rfl) T.g_is_part T.F_is_part.kp T.b_is_part .nil pass0 (pa_cons (xv 3) pa_nil))))
      (pss_one ps_never)
      pss_nil)
      (xss_cut (xs_if (xt_cmp op_gtY (xv 4) (xv 2) (nomark _))
      (pss_one (ps_set (i := 2) sc_check_form.nd rfl (.inl rfl) (xv 4)))
      pss_nil)
      (pss_one (xs_if (PW.pt (xw_and (xt_cmp (op_neLK K hr.u190) (pe_ix (ix_k K) (xv 3) pe_int (fun _ _ => rfl)) pe_str (nomark _)) (pw_and1 (xt_cmp (op_neLK K hr.u190) (pe_ix (ix_k K) (xv 3) pe_int (fun _ _ => rfl)) pe_str (nomark _)))))
      (pss_one (ps_for PassesOwn.never rfl (pi_range3 (by rfl) T.m_range (pa_cons (pe_op op_subY (pe_callB (cr_lenK K) (by rfl) T.m_len (by decide +kernel) (pa_cons (xv 3) pa_nil)) pe_int) (pa_cons pe_int (pa_cons (pe_un un_neg pe_int) pa_nil)))) (pg_name (i := 5) sc_check_form.nd rfl (.inl rfl))
      (pss_one (ps_expr (pe_bmK K PySem.F.plainAttrs_list PySem.F.slot_list_append PySem.F.type_list_append mt_append (xv 1) (pa_cons (pe_tup (pa_cons (pe_ix (ix_k K) (xv 3) (xv 5) (fun _ _ => rfl)) (pa_cons (pe_op op_addY (xv 4) pe_int) pa_nil))) pa_nil))))))
      pss_nil))))))
      (pss_one (xs_if (xt_cmp op_gtY (xv 2) (xe_globI (by rfl) T.v_MOST_LEVELS) (nomark _))
      (pss_one ps_never)
      pss_nil))))), ?_⟩
    refine ⟨sz, fun t nt => ⟨sz, fun L nL => ?_⟩⟩
    have S1 := S.newG (o := .tup [v, .int 1]) nt
    have s1 := S.grow (o := .tup [v, .int 1]) nt
    have S2 := S1.new (o := .lst [.ref t]) nL
    refine ⟨fun m σ H' => ∃ (y3 y4 y5 : Option V) (ds : Int) (G' : Hp) (ws : List V) (cs : List (Gm × Int)), σ = [some v, some (.ref L), some (.int ds), y3, y4, y5] ∧ Same G G' ∧ Sep G' ((L, .lst ws) :: M) H' ∧ Paired (Wt K nl G') ws cs ∧ ds ≤ 5 ∧ m = wsz cs ∧ m ≤ 485,
      ⟨f.size, _, _, _, 1, _, [.ref t], [(f, 1)], rfl, s1, S2, .cons ⟨t, v, rfl, upd_same, hf.same' s1, ok, by show (1 : Int) + f.dep ≤ 6; omega⟩ .nil, by decide, by simp [wsz], Gm.size5 hd⟩, fun m σ H' h => ?_⟩
    obtain ⟨y3, y4, y5, ds, G', ws, cs, rfl, s3, S3, hw, hds, rfl, hm⟩ := h
    refine ⟨!ws.isEmpty, .inl ⟨ws, SqL.of S3.hd, rfl⟩, fun e => ?_, fun e => ?_⟩
    · rcases nil_or_snoc ws with rfl | ⟨wp, x, rfl⟩
      · exact nomatch e
      obtain ⟨cp, c, rfl, hwp, t1, u, rfl, ht1, hu, oku, du⟩ := prd_unsnoc hw
      have S4 := S3.set (o' := .lst wp)
      -- part, level = waiting.pop()
      refine ⟨.inl ⟨rfl, _, SqL.of S3.hd⟩, L, wp ++ [.ref t1], .ref t1, rfl, rfl, S3.hd, by simp, ?_⟩
      rw [List.dropLast_concat]
      refine ⟨t1, _, rfl, SqT.of (S4.st ht1), rfl, _, _, rfl, _, _, rfl, rfl, ?_⟩
      refine ⟨G', _, u, c.1, nl, rfl, lt, S4, hu, oku, fun G5 H5 s5 S5 => ⟨ff, fun _ => ?_⟩⟩
      have hwp5 : Paired (Wt K nl G5) wp cp := prd_imp (fun _ _ => Wt.same s5) hwp
      have hu5 := hu.same' s5
      have hdc := c.1.dep_pos
      have esz : wsz (cp ++ [c]) = wsz cp + c.1.size := by rw [wsz_app]; simp [wsz]
      have hcs := c.1.size_pos
      refine ⟨fun σ H6 => ∃ ds' : Int, ds' ≤ 5 ∧ σ = [some v, some (.ref L), some (.int ds'), some u, some (.int c.2), y5] ∧ H6 = H5, ⟨fun e => ⟨c.2, by omega, rfl, rfl⟩, fun e => ⟨ds, hds, rfl, rfl⟩⟩, fun σ H6 h => ?_⟩
      obtain ⟨ds', hds', rfl, rfl⟩ := h
      have stop : ∃ m', m' < wsz (cp ++ [c]) ∧ ∃ (y3 y4 y5' : Option V) (ds : Int) (G' : Hp) (ws : List V) (cs : List (Gm × Int)), ([some v, some (.ref L), some (.int ds'), some u, some (.int c.2), y5] : List (Option V)) = [some v, some (.ref L), some (.int ds), y3, y4, y5'] ∧
          Same G G' ∧ Sep G' ((L, .lst ws) :: M) H6 ∧ Paired (Wt K nl G') ws cs ∧ ds ≤ 5 ∧ m' = wsz cs ∧ m' ≤ 485 := ⟨wsz cp, by omega, _, _, _, ds', G5, wp, cp, rfl, s3.trans s5, S5, hwp5, hds', rfl, by omega⟩
      rcases hu5.kids oku with ⟨p, n, rfl, hp, _⟩ | ⟨p, n, rfl, hp, _⟩ | ⟨p, n, vs, ks, rfl, hp, hk, u1, u2, hsz, v1, v3⟩
      · have h1 := S5.t hp
        exact ⟨_, _, .inr h1, rfl, fun e => wm e, fun _ => ⟨ff, fun _ => stop⟩⟩
      · have h1 := S5.t hp
        exact ⟨_, _, .inr h1, rfl, fun _ => ⟨_, _, .inr h1, rfl, fun e => wm e, fun _ => stop⟩, fun e => wn e⟩
      · have h1 := S5.t hp
        refine ⟨_, .str n, .inr h1, at0, fun _ => ⟨_, .str n, .inr h1, at0, fun _ => ?_, fun e => wn e u2⟩, fun e => wn e u1⟩
        refine ⟨_, .inr h1, 1, rfl, (vs.length : Int), 0, -1, vs.length, ?_, ?_, for_rangeC (lo := (vs.length : Int)) (c := -1) (n := vs.length) (fun i σ H' => ∃ (y5 : Option V) (G' : Hp) (ns : List V) (ms : List (Gm × Int)), σ = [some v, some (.ref L), some (.int ds'), some (.ref p), some (.int c.2), y5] ∧
          Same G5 G' ∧ Sep G' ((L, .lst (wp ++ ns)) :: M) H' ∧ Paired (Wt K nl G') ns ms ∧ ms = (ks.reverse.map fun k => (k, c.2 + 1)).take i) ?_ (fun i σ H' hi h => ?_) (fun σ H' h => ?_)⟩
        · have e1 : (((V.str n :: vs).length : Nat) : Int) - 1 = vs.length := by rw [List.length_cons]; omega
          show [V.int ((((V.str n :: vs).length : Nat) : Int) - 1), V.int 0, V.int (-1)] = _
          rw [e1]
        · have z := RgC.neg (i := (vs.length : Int)) (j := 0) (by omega) (by omega) (by omega) (by omega)
          have e1 : ((vs.length : Int) - 0).toNat = vs.length := by omega
          rw [e1] at z
          exact z
        · exact ⟨_, G5, [], [], rfl, Same.refl _, by rw [List.append_nil]; exact S5, .nil, rfl⟩
        · obtain ⟨y5, G6, ns, ms, rfl, s6, S6, hn, rfl⟩ := h
          have hkl := prd_len hk
          have hj : vs.length - 1 - i < vs.length := by omega
          have hx : vs[vs.length - 1 - i]? = some vs[vs.length - 1 - i] := List.getElem?_eq_getElem hj
          obtain ⟨kc, hkc, hkk⟩ := prd_get hk hx
          have hat : atI (V.str n :: vs) ((vs.length : Int) + (i : Nat) * (-1)) = some vs[vs.length - 1 - i] := by
            have e1 : (vs.length : Int) + (i : Nat) * (-1) = ((vs.length - i : Nat) : Int) := by omega
            rw [e1]
            refine atI_nat ?_
            have e2 : vs.length - i = (vs.length - 1 - i) + 1 := by omega
            rw [e2, List.getElem?_cons_succ]
            exact hx
          have hnl := prd_len hn
          have hml : ((ks.reverse.map fun k => (k, c.2 + 1)).take i).length ≤ 3 := by
            rw [List.length_take]
            omega
          have hwl := prd_len hwp5
          have hcl := wsz_len cp
          refine ⟨.inl ⟨rfl, _, SqL.of S6.hd⟩, _, _, .inr (S6.t (same_t s6 hp)), hat, sz, fun d nd => ?_⟩
          have S7 := S6.newG (o := .tup [vs[vs.length - 1 - i], .int (c.2 + 1)]) nd
          have s7 := S6.grow (o := .tup [vs[vs.length - 1 - i], .int (c.2 + 1)]) nd
          refine ⟨L, _, _, rfl, rfl, S7.hd, ?_, ?_⟩
          · rw [List.length_append]
            exact smallL (by omega)
          · refine ⟨_, _, ns ++ [.ref d], _, rfl, s6.trans s7, by rw [← List.append_assoc]; exact S7.set, (prd_imp (fun _ _ => Wt.same s7) hn).snoc (b := (kc, c.2 + 1)) ⟨d, _, rfl, upd_same, (hkk.1.same' s6).same' s7, hkk.2.1, ?_⟩, ?_⟩
            · have z := hkk.2.2
              show c.2 + 1 + kc.dep ≤ 6
              omega
            · refine (XL.take_snoc ?_).symm
              rw [List.getElem?_map, List.getElem?_reverse (by omega)]
              have e3 : ks.length - 1 - i = vs.length - 1 - i := by omega
              rw [e3, hkc]
              rfl
        · obtain ⟨y5, G6, ns, ms, rfl, s6, S6, hn, rfl⟩ := h
          have hkl := prd_len hk
          have e1 : (ks.reverse.map fun k => (k, c.2 + 1)).take vs.length = ks.reverse.map fun k => (k, c.2 + 1) := List.take_of_length_le (by simp; omega)
          rw [e1] at hn
          have e2 : wsz (cp ++ ks.reverse.map fun k => (k, c.2 + 1)) = wsz cp + sizes ks := by rw [wsz_app, sizes_rev]
          exact ⟨wsz (cp ++ ks.reverse.map fun k => (k, c.2 + 1)), by omega, _, _, _, ds', G6, _, _, rfl, (s3.trans s5).trans s6, S6, prd_app (prd_imp (fun _ _ => Wt.same s6) hwp5) hn, hds', rfl, by omega⟩
    · refine ⟨fun e => ?_, fun e => ?_⟩
      · have z : (5 : Int) < ds := of_decide_eq_true e
        omega
      · exact q _ _ (s3.trans S3.frzS) S3.frz
/-! ### value_of -/
def spValueOf (K : PySem.W.Frag) (d : Nat) : Sp := fun vs H Q _ => ∃ (G : Hp) (M : List (Addr × HO)) (v : V) (f : Gm) (a : Addr) (ns : List Str) (e : Str → Int), vs = [v, .ref a] ∧ Sep G M H ∧ GmAt K G v f ∧ f.ok ns ∧ f.dep ≤ d ∧ H a = some (.dK (dk ns e)) ∧ Q (.int (f.val e)) H
theorem ok_value_of (T : Top K mg w) : ∀ d : Nat, FnOk P w K mg base CX0 (d + 1) T.a_value_of T.d_value_of ["parts", "values"] (spValueOf K d)
  | 0 => fn_false fun vs H Q E h => by
    obtain ⟨G, M, v, f, a, ns, e, _, _, _, _, hd, _⟩ := h
    have := f.dep_pos
    omega
  | d + 1 => by
    have G_value_of := ok_value_of T d
    refine T.F_value_of.ok sc_value_of (fun vs H Q E h => ?_) (fun cdv A outer s H vs Q E hr h => ?_)
    · obtain ⟨G, M, v, f, a, ns, e, rfl, _⟩ := h
      rfl
    · obtain ⟨G, M, v, f, a, ns, e, rfl, S, hf, ok, hd, he, q⟩ := h
      refine ⟨_, (pss_cons (xs_if (xt_cmp (op_eqLK K hr.u190) (pe_ix (ix_k K) (xv 0) pe_int (fun _ _ => rfl)) pe_str (nomark _))
      (pss_one (ps_ret (pe_ix (ix_k K) (xv 0) pe_int (fun _ _ => rfl))))
      pss_nil)
      (pss_cons (xs_if (xt_cmp (op_eqLK K hr.u190) (pe_ix (ix_k K) (xv 0) pe_int (fun _ _ => rfl)) pe_str (nomark _))
      (pss_cons (xs_if (pt_cmp (pc_dnotin (hu_of hr) (pe_ix (ix_k K) (xv 0) pe_int (fun _ _ => rfl)) (xv 1)))
      (pss_one ps_never)
      pss_nil)
      (pss_one (ps_ret (pe_dget (hu_of hr) (xv 1) (pe_ix (ix_k K) (xv 0) pe_int (fun _ _ => rfl)) (fun _ _ => rfl)))))
      pss_nil)
      (pss_cons (xs_if (xt_cmp (op_eqLK K hr.u190) (pe_ix (ix_k K) (xv 0) pe_int (fun _ _ => rfl)) pe_str (nomark _))
      (pss_cons (xs_if (xt_cmp (op_neLK K hr.u190) (pe_call G_value_of (hr.mono (by omega)) (by rfl) T.g_value_of T.F_value_of.kp T.b_value_of .nil pass0 (pa_cons (pe_ix (ix_k K) (xv 0) pe_int (fun _ _ => rfl)) (pa_cons (xv 1) pa_nil))) pe_int (nomark _))
      (pss_one (ps_ret (pe_call G_value_of (hr.mono (by omega)) (by rfl) T.g_value_of T.F_value_of.kp T.b_value_of .nil pass0 (pa_cons (pe_ix (ix_k K) (xv 0) pe_int (fun _ _ => rfl)) (pa_cons (xv 1) pa_nil)))))
      pss_nil)
      (pss_one (ps_ret (pe_call G_value_of (hr.mono (by omega)) (by rfl) T.g_value_of T.F_value_of.kp T.b_value_of .nil pass0 (pa_cons (pe_ix (ix_k K) (xv 0) pe_int (fun _ _ => rfl)) (pa_cons (xv 1) pa_nil))))))
      pss_nil)
      (pss_cons (ps_set (i := 2) sc_value_of.nd rfl (.inl rfl) (pe_call G_value_of (hr.mono (by omega)) (by rfl) T.g_value_of T.F_value_of.kp T.b_value_of .nil pass0 (pa_cons (pe_ix (ix_k K) (xv 0) pe_int (fun _ _ => rfl)) (pa_cons (xv 1) pa_nil))))
      (pss_cons (ps_set (i := 3) sc_value_of.nd rfl (.inl rfl) (pe_call G_value_of (hr.mono (by omega)) (by rfl) T.g_value_of T.F_value_of.kp T.b_value_of .nil pass0 (pa_cons (pe_ix (ix_k K) (xv 0) pe_int (fun _ _ => rfl)) (pa_cons (xv 1) pa_nil))))
      (pss_cons (xs_if (xt_cmp (op_eqLK K hr.u190) (pe_ix (ix_k K) (xv 0) pe_int (fun _ _ => rfl)) pe_str (nomark _))
      (pss_one (ps_ret (pe_op op_modY (pe_op op_addY (xv 2) (xv 3)) pe_int)))
      pss_nil)
      (pss_cons (xs_if (xt_cmp (op_eqLK K hr.u190) (xv 2) (xv 3) (nomark _))
      (pss_one (ps_ret pe_int))
      pss_nil)
      (pss_one (ps_ret pe_int))))))))), ?_⟩
      cases hf with
      | is hp =>
        have h1 := S.t hp
        exact ⟨_, _, .inr h1, rfl, fun _ => ⟨_, _, .inr h1, rfl, q⟩, we⟩
      | @get p x hp =>
        have h1 := S.t hp
        have hg : DGet H a (.str x) (some (.int (e x))) := dk_get he ok
        exact ⟨_, _, .inr h1, rfl, fun e => wd e, fun _ => ⟨_, _, .inr h1, rfl, fun _ => ⟨_, _, .inr h1, rfl, a, _, rfl, hg, false, rfl, ff, fun _ => ⟨_, _, .inr h1, rfl, a, _, rfl, hg, q⟩⟩, we⟩⟩
      | sum hp h2 h3 =>
        have h1 := S.t hp
        have e1 : (Gm.sum _ _).dep ≤ d + 1 := hd
        simp only [Gm.dep] at e1
        refine ⟨_, _, .inr h1, rfl, fun e => wd e, fun _ => ⟨_, _, .inr h1, rfl, fun e => wd e, fun _ => ⟨_, _, .inr h1, rfl, fun e => wd e, fun _ => ?_⟩⟩⟩
        refine ⟨_, _, .inr h1, rfl, G, M, _, _, a, ns, e, rfl, S, h2, ok.1, by omega, he, ?_⟩
        refine ⟨_, _, .inr h1, rfl, G, M, _, _, a, ns, e, rfl, S, h3, ok.2, by omega, he, ?_⟩
        exact ⟨_, _, .inr h1, rfl, fun _ => ⟨by decide, fun r hr _ _ => hr ▸ q⟩, we⟩
      | same hp h2 h3 =>
        have h1 := S.t hp
        have e1 : (Gm.same _ _).dep ≤ d + 1 := hd
        simp only [Gm.dep] at e1
        refine ⟨_, _, .inr h1, rfl, fun e => wd e, fun _ => ⟨_, _, .inr h1, rfl, fun e => wd e, fun _ => ⟨_, _, .inr h1, rfl, fun e => wd e, fun _ => ?_⟩⟩⟩
        refine ⟨_, _, .inr h1, rfl, G, M, _, _, a, ns, e, rfl, S, h2, ok.1, by omega, he, ?_⟩
        refine ⟨_, _, .inr h1, rfl, G, M, _, _, a, ns, e, rfl, S, h3, ok.2, by omega, he, ?_⟩
        refine ⟨_, _, .inr h1, rfl, fun e => wd e, fun _ => ⟨fun e => ?_, fun e => ?_⟩⟩
        · simp only [Gm.val] at q
          rw [if_pos (of_decide_eq_true e)] at q
          exact q
        · simp only [Gm.val] at q
          rw [if_neg (of_decide_eq_false e)] at q
          exact q
      | pick hp h2 h3 h4 =>
        have h1 := S.t hp
        have e1 : (Gm.pick _ _ _).dep ≤ d + 1 := hd
        simp only [Gm.dep] at e1
        refine ⟨_, _, .inr h1, rfl, fun e => wd e, fun _ => ⟨_, _, .inr h1, rfl, fun e => wd e, fun _ => ⟨_, _, .inr h1, rfl, fun _ => ?_, we⟩⟩⟩
        refine ⟨_, _, .inr h1, rfl, G, M, _, _, a, ns, e, rfl, S, h2, ok.1, by omega, he, fun e2 => ?_, fun e2 => ?_⟩
        · refine ⟨_, _, .inr h1, rfl, G, M, _, _, a, ns, e, rfl, S, h3, ok.2.1, by omega, he, ?_⟩
          simp only [Gm.val] at q
          rw [if_neg (by simpa using e2)] at q
          exact q
        · refine ⟨_, _, .inr h1, rfl, G, M, _, _, a, ns, e, rfl, S, h4, ok.2.2, by omega, he, ?_⟩
          simp only [Gm.val] at q
          rw [if_pos (by simpa using e2)] at q
          exact q

end
end K43
set_option Elab.async false
set_option linter.all false
set_option maxRecDepth 100000
set_option maxHeartbeats 4000000
namespace K43
open PySem PySem.Spec PyProof.Rows L2 XL
/-! ### settings, by number -/
abbrev Rg := List (Str × Nat)
def cnt : Rg → Nat
  | [] => 1
  | (_, n) :: r => n * cnt r
def stg : Rg → Nat → Str → Int
  | [], _, _ => 0
  | (x, n) :: r, i, y => if y = x then (((i / cnt r) % n : Nat) : Int) else stg r i y
def rgN (rs : Rg) : List Str := rs.map (·.1)
/-- good ranges -/
structure RgOk (rs : Rg) : Prop where
  nd : (rgN rs).Nodup
  sz : ∀ p ∈ rs, 1 ≤ p.2 ∧ p.2 ≤ 4
theorem RgOk.left {p q : Rg} (h : RgOk (p ++ q)) : RgOk p := by
  have nd := h.nd
  unfold rgN at nd
  rw [List.map_append, List.nodup_append] at nd
  exact ⟨nd.1, fun z hz => h.sz z (List.mem_append_left _ hz)⟩
theorem RgOk.right {p q : Rg} (h : RgOk (p ++ q)) : RgOk q := by
  have nd := h.nd
  unfold rgN at nd
  rw [List.map_append, List.nodup_append] at nd
  exact ⟨nd.2.1, fun z hz => h.sz z (List.mem_append_right _ hz)⟩
theorem RgOk.tail {p : Str × Nat} {q : Rg} (h : RgOk (p :: q)) : RgOk q := RgOk.right (p := [p]) h
theorem RgOk.head {p : Str × Nat} {q : Rg} (h : RgOk (p :: q)) : p.1 ∉ rgN q := (List.nodup_cons.mp h.nd).1
theorem cnt_pos : ∀ {rs : Rg}, RgOk rs → 0 < cnt rs
  | [], _ => Nat.one_pos
  | p :: r, h => Nat.mul_pos (h.sz p List.mem_cons_self).1 (cnt_pos h.tail)
theorem cnt_le : ∀ {rs : Rg}, RgOk rs → cnt rs ≤ 4 ^ rs.length
  | [], _ => Nat.le_refl 1
  | p :: r, h => by
    have h1 := (h.sz p List.mem_cons_self).2
    have h2 := cnt_le h.tail
    have := Nat.mul_le_mul h1 h2
    rw [List.length_cons, Nat.pow_succ, Nat.mul_comm (4 ^ r.length)]
    exact this
theorem cnt_app : ∀ p q : Rg, cnt (p ++ q) = cnt p * cnt q
  | [], q => by simp [cnt]
  | x :: r, q => by simp only [List.cons_append, cnt, cnt_app r q, Nat.mul_assoc]
theorem cnt_snoc (p : Rg) (x : Str) (n : Nat) : cnt (p ++ [(x, n)]) = cnt p * n := by
  rw [cnt_app]
  simp [cnt]
theorem stg_none {y : Str} {i : Nat} : ∀ {rs : Rg}, y ∉ rgN rs → stg rs i y = 0
  | [], _ => rfl
  | (x, n) :: r, h => by
    have h1 : y ≠ x := fun e => h (by rw [e]; exact List.mem_cons_self)
    simp only [stg, if_neg h1]
    exact stg_none fun z => h (List.mem_cons_of_mem _ z)
theorem stg_bnd {y : Str} {i : Nat} : ∀ {rs : Rg}, RgOk rs → 0 ≤ stg rs i y ∧ stg rs i y ≤ 3
  | [], _ => by simp [stg]
  | (x, n) :: r, h => by
    simp only [stg]
    split
    · have h1 := h.sz (x, n) List.mem_cons_self
      have h2 := Nat.mod_lt (i / cnt r) h1.1
      have h3 : (x, n).2 = n := rfl
      rw [h3] at h1 h2
      omega
    · exact stg_bnd h.tail
/-- one range more at the end -/
theorem stg_snoc {x y : Str} {n i w : Nat} (hn : 0 < n) (hw : w < n) : ∀ {p : Rg}, RgOk p → x ∉ rgN p → stg (p ++ [(x, n)]) (i * n + w) y = if y = x then (w : Int) else stg p i y
  | [], _, _ => by
    simp only [List.nil_append, stg, cnt, Nat.div_one]
    split
    · rw [Nat.mul_comm i n, Nat.mul_add_mod, Nat.mod_eq_of_lt hw]
    · rfl
  | (x0, n0) :: r, h, hx => by
    have hx0 : x ≠ x0 := fun e => hx (by rw [e]; exact List.mem_cons_self)
    have ih := stg_snoc (i := i) (y := y) hn hw h.tail (p := r) fun z => hx (List.mem_cons_of_mem _ z)
    simp only [List.cons_append, stg]
    rw [ih, cnt_snoc]
    have e : (i * n + w) / (cnt r * n) = i / cnt r := by
      rw [Nat.mul_comm (cnt r) n, ← Nat.div_div_eq_div_mul]
      congr 1
      rw [Nat.mul_comm i n, Nat.mul_add_div hn, Nat.div_eq_of_lt hw, Nat.add_zero]
    rw [e]
    by_cases h1 : y = x0
    · subst h1
      rw [if_pos rfl, if_neg (fun e => hx0 e.symm), if_pos rfl]
    · rw [if_neg h1, if_neg h1]
theorem stg_per {y : Str} {i q : Nat} : ∀ {r : Rg}, RgOk r → stg r (i + cnt r * q) y = stg r i y
  | [], _ => rfl
  | (x, n) :: r, h => by
    have hn := (h.sz (x, n) List.mem_cons_self).1
    have hc := cnt_pos h.tail
    simp only [stg, cnt]
    have e1 : i + n * cnt r * q = i + cnt r * (n * q) := by rw [Nat.mul_comm n (cnt r), Nat.mul_assoc]
    rw [e1, stg_per (r := r) h.tail, Nat.add_mul_div_left _ _ hc, Nat.add_mul_mod_self_left]
/-- each setting has a number -/
theorem stg_surj {e : Str → Int} : ∀ {rs : Rg}, RgOk rs → (∀ p ∈ rs, 0 ≤ e p.1 ∧ e p.1 < p.2) → ∃ i, i < cnt rs ∧ ∀ y ∈ rgN rs, stg rs i y = e y
  | [], _, _ => ⟨0, Nat.one_pos, fun y h => by simp [rgN] at h⟩
  | (x, n) :: r, h, he => by
    obtain ⟨i, hi, hv⟩ := stg_surj h.tail fun p hp => he p (List.mem_cons_of_mem _ hp)
    obtain ⟨h0, h1⟩ := he (x, n) List.mem_cons_self
    obtain ⟨k, hk⟩ := Int.eq_ofNat_of_zero_le h0
    have hk : e x = (k : Int) := hk
    have hkn : k < n := by
      have h1 : e x < (n : Int) := h1
      omega
    have hc := cnt_pos h.tail
    refine ⟨i + cnt r * k, ?_, fun y hy => ?_⟩
    · simp only [cnt]
      have : cnt r * (k + 1) ≤ cnt r * n := Nat.mul_le_mul_left _ hkn
      rw [Nat.mul_add, Nat.mul_one] at this
      rw [Nat.mul_comm n]
      omega
    · simp only [stg]
      by_cases hyx : y = x
      · subst hyx
        rw [if_pos rfl, hk, Nat.add_mul_div_left _ _ hc, Nat.div_eq_of_lt hi, Nat.zero_add, Nat.mod_eq_of_lt hkn]
      · rw [if_neg hyx, stg_per h.tail]
        rcases List.mem_cons.mp hy with h2 | h2
        · exact absurd h2 hyx
        · exact hv y h2
theorem stg_lt {y : Str} {i : Nat} : ∀ {rs : Rg}, RgOk rs → ∀ p ∈ rs, 0 ≤ stg rs i p.1 ∧ stg rs i p.1 < p.2
  | [], _, p, hp => by simp at hp
  | (x, n) :: r, h, p, hp => by
    simp only [stg]
    rcases List.mem_cons.mp hp with rfl | hp
    · rw [if_pos rfl]
      have := Nat.mod_lt (i / cnt r) (h.sz (x, n) List.mem_cons_self).1
      have e : ((x, n) : Str × Nat).2 = n := rfl
      rw [e] at this ⊢
      omega
    · have hne : p.1 ≠ x := fun e => h.head (by
        show x ∈ rgN r
        rw [← e]
        exact List.mem_map_of_mem (f := fun p : Str × Nat => p.1) hp)
      rw [if_neg hne]
      exact stg_lt (y := y) h.tail p hp
/-- two settings that differ in x alone give unlike values -/
def Nd (rs : Rg) (val : Nat → Int) (x : Str) : Prop := ∃ i j, i < cnt rs ∧ j < cnt rs ∧ (∀ y ∈ rgN rs, y ≠ x → stg rs i y = stg rs j y) ∧ val i ≠ val j
/-- two settings that agree on a list that has all needed names give equal values -/
theorem nd_enough {rs : Rg} (h : RgOk rs) {val : Nat → Int} (hv : ∀ i j, i < cnt rs → j < cnt rs → (∀ y ∈ rgN rs, stg rs i y = stg rs j y) → val i = val j) {ls : List Str} (hl : ∀ x ∈ rgN rs, Nd rs val x → x ∈ ls)
    {a b : Nat} (ha : a < cnt rs) (hb : b < cnt rs) (e : ∀ y ∈ ls, stg rs a y = stg rs b y) : val a = val b := by
  have hyb : ∀ k, k ≤ (rgN rs).length → ∃ i, i < cnt rs ∧ (∀ y ∈ rgN rs, stg rs i y = if y ∈ (rgN rs).take k then stg rs b y else stg rs a y) ∧ val i = val a := by
    intro k
    induction k with
    | zero => exact fun _ => ⟨a, ha, fun y _ => by simp, rfl⟩
    | succ k ih =>
      intro hk
      obtain ⟨i, hi, h1, h2⟩ := ih (by omega)
      obtain ⟨j, hj, h3⟩ := stg_surj (e := fun y => if y ∈ (rgN rs).take (k + 1) then stg rs b y else stg rs a y) h fun p hp => by
        show 0 ≤ (if p.1 ∈ (rgN rs).take (k + 1) then stg rs b p.1 else stg rs a p.1) ∧ (if p.1 ∈ (rgN rs).take (k + 1) then stg rs b p.1 else stg rs a p.1) < p.2
        split
        · exact stg_lt (y := p.1) h p hp
        · exact stg_lt (y := p.1) h p hp
      refine ⟨j, hj, h3, ?_⟩
      rw [← h2]
      have hkl : k < (rgN rs).length := by omega
      have hx : (rgN rs)[k]? = some (rgN rs)[k] := List.getElem?_eq_getElem hkl
      have tk : (rgN rs).take (k + 1) = (rgN rs).take k ++ [(rgN rs)[k]] := by
        rw [List.take_add_one, hx]
        rfl
      have same : ∀ y ∈ rgN rs, y ≠ (rgN rs)[k] → stg rs i y = stg rs j y := fun y hy ne => by
        rw [h1 y hy, h3 y hy, tk]
        simp only [List.mem_append, List.mem_singleton, ne, or_false]
      by_cases hxl : (rgN rs)[k] ∈ ls
      · refine (hv i j hi hj fun y hy => ?_).symm
        by_cases hyk : y = (rgN rs)[k]
        · rw [h1 y hy, h3 y hy, tk, hyk]
          rw [if_pos (List.mem_append_right _ (List.mem_singleton.mpr rfl)), e _ hxl]
          split <;> rfl
        · exact same y hy hyk
      · refine Classical.byContradiction fun ne => hxl (hl _ (List.getElem_mem hkl) ⟨i, j, hi, hj, same, fun q => ne q.symm⟩)
  obtain ⟨i, hi, h1, h2⟩ := hyb (rgN rs).length (Nat.le_refl _)
  rw [← h2]
  refine hv i b hi hb fun y hy => ?_
  rw [h1 y hy, List.take_length, if_pos hy]

section
variable {P : Program} {w : World} {K : PySem.W.Frag} {mg : Str → Option Value} {base : Heap}
end
end K43
set_option Elab.async false
set_option linter.all false
set_option maxRecDepth 100000
set_option maxHeartbeats 4000000
namespace K43
open PySem PySem.Spec PyProof.Rows L2 XL
/-! ### ranges at an address -/
def RgAt (K : PySem.W.Frag) (G : Hp) (v : V) (p : Str × Nat) : Prop := ∃ a, v = .ref a ∧ SqT K G a [.str p.1, .int (p.2 : Nat)]
theorem RgAt.same {K : PySem.W.Frag} {G G' : Hp} (e : Same G G') {v : V} {p : Str × Nat} (h : RgAt K G v p) : RgAt K G' v p := by
  obtain ⟨a, h1, h2⟩ := h
  exact ⟨a, h1, same_t e h2⟩
abbrev RgsAt (K : PySem.W.Frag) (G : Hp) (us : List V) (rs : Rg) : Prop := Paired (RgAt K G) us rs
theorem rgs_same {K : PySem.W.Frag} {G G' : Hp} (e : Same G G') {us : List V} {rs : Rg} (h : RgsAt K G us rs) : RgsAt K G' us rs := prd_imp (fun _ _ z => z.same e) h
def Rz (G : Hp) (M : List (Addr × HO)) (C : Addr) (fs : List (Str × V)) (E : XK) : Prop := ∀ (G' H' : Hp) (N : List (Addr × HO)) (dd : Addr), Same G G' → Sep G' (N ++ M) H' → H' dd = none → E (.ref C) (some dd) (upd H' dd (.xd fs))
theorem Rz.same {G G' : Hp} {M : List (Addr × HO)} {C : Addr} {fs : List (Str × V)} {E : XK} (h : Rz G M C fs E) (s : Same G G') : Rz G' M C fs E := fun G2 H' N dd s2 S n => h G2 H' N dd (s.trans s2) S n
theorem Rz.cell {G : Hp} {M : List (Addr × HO)} {C : Addr} {fs : List (Str × V)} {E : XK} (N' : List (Addr × HO)) (h : Rz G M C fs E) : Rz G (N' ++ M) C fs E := fun G2 H' N dd s2 S n => h G2 H' (N ++ N') dd s2 (by rw [List.append_assoc]; exact S) n
theorem Rz.now {G H : Hp} {M : List (Addr × HO)} {C : Addr} {fs : List (Str × V)} {E : XK} (h : Rz G M C fs E) (S : Sep G M H) (dd : Addr) (n : H dd = none) : E (.ref C) (some dd) (upd H dd (.xd fs)) := h G H [] dd (Same.refl _) S n

section
variable {P : Program} {w : World} {K : PySem.W.Frag} {mg : Str → Option Value} {base : Heap}
/-! ### the program's settings -/
def spCounted (K : PySem.W.Frag) (C : Addr) : Sp := fun vs H Q E => ∃ (G : Hp) (M : List (Addr × HO)) (L : Addr) (us : List V) (rs : Rg), vs = [.ref L] ∧ Sep G M H ∧ SqL K G L us ∧ RgsAt K G us rs ∧ RgOk rs ∧ rs.length ≤ 60 ∧
  (cnt rs ≤ 256 → Q (.int (cnt rs : Nat)) H) ∧ (256 < cnt rs → Rz G M C [("count", .int (cnt rs : Nat))] E)
theorem ok_counted (T : Top K mg w) (pf : PySem.XExc.PF P T.x_file) {k : Nat} : FnOk P w K mg base (L2.CX P w) (k + 2) T.a_counted T.d_counted ["ranges"] (spCounted K T.C_TooMany) := by
  refine T.F_counted.okX sc_counted (fun vs H Q E h => ?_) (fun cdv A outer s H vs Q E hr h => ?_)
  · obtain ⟨G, M, L, us, rs, rfl, _⟩ := h
    rfl
  · obtain ⟨G, M, L, us, rs, rfl, S, hL, hus, ro, rl, q, rz⟩ := h
    refine ⟨_, (pss_cons (ps_set (i := 1) sc_counted.nd rfl (.inl rfl) pe_int)
      (pss_cons (ps_for (passes_of rfl) rfl (pi_listK K (xv 0)) (pg_tupK K 2 (pgs_cons (pg_name (i := 2) sc_counted.nd rfl (.inl rfl)) (pgs_cons (pg_name (i := 3) sc_counted.nd rfl (.inl rfl)) pgs_nil)))
      (pss_one (ps_set (i := 1) sc_counted.nd rfl (.inl rfl) (pe_op op_mulY (xv 1) (xv 3)))))
      (pss_cons (xs_if (xt_cmp op_gtY (xv 1) (xe_globI (by rfl) T.v_MOST_SETTINGS) (nomark _))
      (pss_one (ps_raiseX (k := 0) rfl (T.x_TooMany P pf) (hr.mono (by omega)) (takes_of rfl rfl rfl rfl) (pa_cons (xv 1) pa_nil)))
      pss_nil)
      (pss_one (ps_ret (xv 1)))))), ?_⟩
    have hl := prd_len hus
    refine ⟨L, rfl, ⟨_, S.l hL⟩, for_list (xs := us) (fun i σ H' => ∃ (y2 y3 : Option V), σ = [some (.ref L), some (.int (cnt (rs.take i) : Nat)), y2, y3] ∧ H' = H) ⟨_, _, rfl, rfl⟩ (fun i σ H' _ h => ?_) (fun i x σ H' hx h => ?_) (fun σ H' h => ?_)⟩
    · obtain ⟨_, _, _, rfl⟩ := h
      exact S.l hL
    · obtain ⟨y2, y3, rfl, rfl⟩ := h
      obtain ⟨p, hp, a, rfl, ha⟩ := prd_get hus hx
      have sz4 := ro.sz p (List.mem_of_getElem? hp)
      refine ⟨a, _, rfl, S.t ha, rfl, _, _, rfl, _, _, rfl, rfl, ?_⟩
      refine ⟨.inr ⟨by omega, by omega⟩, some (.str p.1), some (.int (p.2 : Nat)), ?_, rfl⟩
      rw [take_snoc hp, show ([p] : Rg) = [(p.1, p.2)] from rfl, cnt_snoc, Int.natCast_mul]
      rfl
    · obtain ⟨y2, y3, rfl, rfl⟩ := h
      rw [hl, List.take_length]
      refine ⟨fun e => ?_, fun e => ?_⟩
      · have e := of_decide_eq_true e
        refine ⟨_, rfl, .inr ⟨_, rfl, ?_⟩, fun dd nd => (rz (by omega)).now S dd nd⟩
        have h1 := cnt_le ro
        have h2 : 4 ^ rs.length ≤ 4 ^ 60 := Nat.pow_le_pow_right (by decide) rl
        have h3 : cnt rs < 2 ^ 1920 := Nat.lt_of_le_of_lt (Nat.le_trans h1 h2) (by decide)
        exact (Nat.log2_lt (show ((cnt rs : Nat) : Int).natAbs ≠ 0 by omega)).mpr h3
      · have e := of_decide_eq_false e
        exact q (by omega)
def spSetAt (K : PySem.W.Frag) : Sp := fun vs H Q _ => ∃ (G : Hp) (M : List (Addr × HO)) (L : Addr) (us : List V) (rs : Rg) (i : Nat), vs = [.ref L, .int (i : Nat)] ∧ Sep G M H ∧ SqL K G L us ∧ RgsAt K G us rs ∧ RgOk rs ∧ rs.length ≤ 60 ∧
  ∀ (D : Addr) (H' : Hp), Sep G ((D, .dK (dk (rgN rs) (stg rs i))) :: M) H' → Q (.ref D) H'
theorem ok_setting_at (T : Top K mg w) {k : Nat} : FnOk P w K mg base CX0 (k + 1) T.a_setting_at T.d_setting_at ["ranges", "number"] (spSetAt K) := by
  refine T.F_setting_at.ok sc_setting_at (fun vs H Q E h => ?_) (fun cdv A outer s H vs Q E hr h => ?_)
  · obtain ⟨G, M, L, us, rs, i, rfl, _⟩ := h
    rfl
  · obtain ⟨G, M, L, us, rs, i, rfl, S, hL, hus, ro, rl, q⟩ := h
    refine ⟨_, (pss_cons (ps_set (i := 2) sc_setting_at.nd rfl (.inl rfl) pe_dnewK)
      (pss_cons (ps_for PassesOwn.never rfl (pi_listK K (xv 0)) (pg_tupK K 2 (pgs_cons (pg_name (i := 3) sc_setting_at.nd rfl (.inl rfl)) (pgs_cons (pg_name (i := 4) sc_setting_at.nd rfl (.inl rfl)) pgs_nil)))
      (pss_one (ps_dput (hu_of hr) (xv 2) (xv 3) pe_int rfl)))
      (pss_cons (ps_set (i := 5) sc_setting_at.nd rfl (.inl rfl) (xv 1))
      (pss_cons (ps_for PassesOwn.never rfl (pi_range3 (by rfl) T.m_range (pa_cons (pe_op op_subY (pe_callB (cr_lenK K) (by rfl) T.m_len (by decide +kernel) (pa_cons (xv 0) pa_nil)) pe_int) (pa_cons (pe_un un_neg pe_int) (pa_cons (pe_un un_neg pe_int) pa_nil)))) (pg_name (i := 6) sc_setting_at.nd rfl (.inl rfl))
      (pss_cons (ps_asg (pe_ix (ix_k K) (xv 0) (xv 6) (fun _ _ => rfl)) (pg_tupK K 2 (pgs_cons (pg_name (i := 3) sc_setting_at.nd rfl (.inl rfl)) (pgs_cons (pg_name (i := 4) sc_setting_at.nd rfl (.inl rfl)) pgs_nil))))
      (pss_cons (ps_dput (hu_of hr) (xv 2) (xv 3) (pe_op op_modY (xv 5) (xv 4)) rfl)
      (pss_one (ps_set (i := 5) sc_setting_at.nd rfl (.inl rfl) (pe_op op_divY (xv 5) (xv 4)))))))
      (pss_one (ps_ret (xv 2))))))), ?_⟩
    have hl := prd_len hus
    refine fun D nD => ?_
    have S1 := S.new (o := .dK []) nD
    refine ⟨L, rfl, ⟨_, S1.l hL⟩, for_list (xs := us) (fun j σ H' => ∃ (y3 y4 y5 y6 : Option V), σ = [some (.ref L), some (.int (i : Nat)), some (.ref D), y3, y4, y5, y6] ∧ Sep G ((D, .dK (dk ((rgN rs).take j) fun _ => 0)) :: M) H') ⟨_, _, _, _, rfl, S1⟩ (fun j σ H' _ h => ?_) (fun j x σ H' hx h => ?_) (fun σ H' h => ?_)⟩
    · obtain ⟨_, _, _, _, _, S2⟩ := h
      exact S2.l hL
    · obtain ⟨y3, y4, y5, y6, rfl, S2⟩ := h
      obtain ⟨p, hp, a, rfl, ha⟩ := prd_get hus hx
      have hn : (rgN rs)[j]? = some p.1 := by
        rw [show rgN rs = rs.map (·.1) from rfl, List.getElem?_map, hp]
        rfl
      have jl := (List.getElem?_eq_some_iff.mp hp).1
      refine ⟨a, _, rfl, S2.t ha, rfl, _, _, rfl, _, _, rfl, rfl, ?_⟩
      refine ⟨D, _, rfl, DPut.k (k := Sum.inr p.1) S2.hd (by rw [dk_len, List.length_take]; exact smallL (by omega)), ?_⟩
      refine ⟨_, _, _, _, rfl, ?_⟩
      rw [← dk_put (e := fun _ => 0) ro.nd hn]
      exact S2.set
    · obtain ⟨y3, y4, y5, y6, rfl, S2⟩ := h
      have nl : (rgN rs).length = rs.length := List.length_map _
      rw [hl, ← nl, List.take_length] at S2
      refine ⟨_, .inl (S2.l hL), 1, rfl, 1, rfl, (us.length : Int) - 1, -1, -1, us.length, rfl, ?_, for_rangeC (lo := (us.length : Int) - 1) (c := -1) (n := us.length) (fun t σ H' => ∃ (y3 y4 y6 : Option V), σ = [some (.ref L), some (.int (i : Nat)), some (.ref D), y3, y4, some (.int ((i / cnt (rs.drop (rs.length - t)) : Nat) : Int)), y6] ∧
        Sep G ((D, .dK (dk (rgN rs) (stg (rs.drop (rs.length - t)) i))) :: M) H') ?_ (fun t σ H' ht h => ?_) (fun σ H' h => ?_)⟩
      · have z := RgC.neg (i := (us.length : Int) - 1) (j := -1) (by omega) (by omega) (by omega) (by omega)
        have e1 : ((us.length : Int) - 1 - -1).toNat = us.length := by omega
        rw [e1] at z
        exact z
      · rw [Nat.sub_zero, List.drop_length]
        refine ⟨y3, y4, y6, ?_, S2⟩
        rw [show i / cnt [] = i from Nat.div_one i]
        rfl
      · obtain ⟨y3, y4, y6, rfl, S3⟩ := h
        have hj : us.length - 1 - t < us.length := by omega
        have hx : us[us.length - 1 - t]? = some us[us.length - 1 - t] := List.getElem?_eq_getElem hj
        obtain ⟨p, hp, a, ea, ha⟩ := prd_get hus hx
        have hat : atI us ((us.length : Int) - 1 + (t : Nat) * (-1)) = some (.ref a) := by
          have e1 : (us.length : Int) - 1 + (t : Nat) * (-1) = ((us.length - 1 - t : Nat) : Int) := by omega
          rw [e1]
          refine atI_nat ?_
          rw [hx, ea]
        have hjr : us.length - 1 - t < rs.length := by omega
        have ed : rs.drop (rs.length - (t + 1)) = p :: rs.drop (rs.length - t) := by
          have e1 : rs.length - (t + 1) = us.length - 1 - t := by omega
          have e2 : rs.length - t = us.length - 1 - t + 1 := by omega
          rw [e1, e2, List.drop_eq_getElem_cons hjr]
          rw [List.getElem?_eq_getElem hjr] at hp
          cases hp
          rfl
        have sz4 := ro.sz p (List.mem_of_getElem? hp)
        refine ⟨_, _, .inl (S3.l hL), hat, a, _, rfl, S3.t ha, rfl, _, _, rfl, _, _, rfl, rfl, ?_⟩
        refine ⟨by omega, fun r er r0 r1 => ?_⟩
        refine ⟨D, _, rfl, DPut.k (k := Sum.inr p.1) S3.hd (by rw [dk_len]; exact smallL (by omega)), ?_⟩
        refine ⟨⟨by omega, by omega⟩, fun u eu u0 => ⟨some (.str p.1), some (.int (p.2 : Nat)), some (.int ((us.length : Int) - 1 + (t : Nat) * (-1))), ?_, ?_⟩⟩
        · have ec : (u : Int) = ((i / cnt (rs.drop (rs.length - (t + 1))) : Nat) : Int) := by
            rw [ed, eu, show cnt (p :: rs.drop (rs.length - t)) = p.2 * cnt (rs.drop (rs.length - t)) from rfl, Nat.mul_comm, ← Nat.div_div_eq_div_mul]
            exact (Int.natCast_ediv _ _).symm
          rw [← ec]
          rfl
        · have hin : p.1 ∈ rgN rs := List.mem_map_of_mem (f := fun p : Str × Nat => p.1) (List.mem_of_getElem? hp)
          have S4 := S3.set (o' := .dK (putK (dk (rgN rs) (stg (rs.drop (rs.length - t)) i)) (Sum.inr p.1) (.int r)))
          rw [dk_set hin] at S4
          have eo : ups (stg (rs.drop (rs.length - t)) i) p.1 r = stg (rs.drop (rs.length - (t + 1))) i := by
            rw [ed]
            funext y
            show (if y = p.1 then r else stg (rs.drop (rs.length - t)) i y) = (if y = p.1 then (((i / cnt (rs.drop (rs.length - t))) % p.2 : Nat) : Int) else stg (rs.drop (rs.length - t)) i y)
            rw [er]
            rfl
          rw [eo] at S4
          rw [dk_set hin, eo]
          exact S4
      · obtain ⟨y3, y4, y6, rfl, S3⟩ := h
        rw [hl, Nat.sub_self, List.drop_zero] at S3
        exact q D H' S3

end
end K43
set_option Elab.async false
set_option linter.all false
set_option maxRecDepth 100000
set_option maxHeartbeats 4000000
namespace K43
open PySem PySem.Spec PyProof.Rows L2 XL
section
variable {P : Program} {w : World} {K : PySem.W.Frag} {mg : Str → Option Value} {base : Heap}
/-! ### the generator of all settings -/
theorem yfor_range {γ : Type} {lo : Int} {n : Nat} {g : TG} {tb : TY γ} {D : YE γ} {d : YD γ} {σ : L2.St} {H : Hp} (Pv : Nat → YD γ → L2.St → Hp → Prop) (h0 : Pv 0 d σ H)
    (hs : ∀ i d σ H, i < n → Pv i d σ H → g (.int (lo + i)) σ H fun σ2 H2 => tb { D with nx := Pv (i + 1), ct := Pv (i + 1), bk := D.nx } d σ2 H2) (hd : ∀ d σ H, Pv n d σ H → D.nx d σ H) :
    ∃ W : Nat → Nat → YD γ → L2.St → Hp → Prop, (∃ m, W 0 m d σ H) ∧ ∀ i m d σ H, W i m d σ H →
      ((Itr lo n).stop i H ∧ D.nx d σ H) ∨ ((Itr lo n).go i H ∧ ∃ N : YD γ → L2.St → Hp → Prop, (∀ d' σ' H', N d' σ' H' → ∃ m', m' < m ∧ W (i + 1) m' d' σ' H') ∧ ∀ x H', (Itr lo n).yld i H x H' → g x σ H' fun σ2 H2 => tb { D with nx := N, ct := N, bk := D.nx } d σ2 H2) := by
  refine ⟨fun i m d σ H => m = n - i ∧ i ≤ n ∧ Pv i d σ H, ⟨n, by simp, Nat.zero_le _, h0⟩, ?_⟩
  rintro i m d σ H ⟨rfl, hi, p⟩
  by_cases hlt : i < n
  · refine .inr ⟨hlt, Pv (i + 1), fun d' σ' H' p' => ⟨n - (i + 1), by omega, rfl, hlt, p'⟩, fun x H' y => ?_⟩
    obtain ⟨e, y⟩ := y
    subst e y
    exact hs i d σ _ hlt p
  · have e : i = n := by omega
    subst e
    exact .inl ⟨Nat.le_refl _, hd d σ H p⟩
inductive StS
  | ini (vs : List V)
  | mid (L : Addr) (us : List V) (rs : Rg) (i : Nat)
/-- what a waking of settings(..) gives -/
def goS (K : PySem.W.Frag) (C : Addr) : StS → Hp → YD StS → Prop
  | .ini vs, H, d => ∃ (G : Hp) (M : List (Addr × HO)) (l : Addr) (us : List V) (rs : Rg), vs = [.ref l] ∧ Sep G M H ∧ SqL K G l us ∧ RgsAt K G us rs ∧ RgOk rs ∧ rs.length ≤ 60 ∧ (256 < cnt rs → Rz G M C [("count", .int (cnt rs : Nat))] d.ex) ∧
    (cnt rs ≤ 256 → ∀ (G' H' : Hp) (L D : Addr), Same G G' → Sep G' ((D, .dK (dk (rgN rs) (stg rs 0))) :: M) H' → SqL K G' L us → d.qy (.ref D) (.mid L us rs 1) H')
  | .mid L us rs i, H, d => ∃ (G : Hp) (M : List (Addr × HO)), Sep G M H ∧ SqL K G L us ∧ RgsAt K G us rs ∧ RgOk rs ∧ rs.length ≤ 60 ∧ cnt rs ≤ 256 ∧
    (i < cnt rs → ∀ (D : Addr) (H' : Hp), Sep G ((D, .dK (dk (rgN rs) (stg rs i))) :: M) H' → d.qy (.ref D) (.mid L us rs (i + 1)) H') ∧ (cnt rs ≤ i → d.qd H)
theorem ok_settings (T : Top K mg w) (pf : PySem.XExc.PF P T.x_file) {k : Nat} (G_counted : FnOk P w K mg base (L2.CX P w) k T.a_counted T.d_counted ["ranges"] (spCounted K T.C_TooMany)) (G_setting_at : FnOk P w K mg base CX0 k T.a_setting_at T.d_setting_at ["ranges", "number"] (spSetAt K)) :
    YFn P w K mg base (k + 1) T.a_settings T.d_settings ["ranges"] (goS K T.C_TooMany) StS.ini := by
  refine Fun.okY T.F_settings sc_settings (by decide +kernel) (fun cdv L A outer vs hr hl => ?_)
  refine ⟨_, (yss_cons (ys_ps (fun _ _ _ _ => (ps_set (i := 1) sc_settings.nd rfl (.inl rfl) (pe_callTy (call_listK K) (by rfl) T.m_list (by decide +kernel) (pa_cons (xv 0) pa_nil)))))
      (yss_cons (ys_ps (fun _ _ _ _ => (ps_set (i := 2) sc_settings.nd rfl (.inl rfl) (pe_call G_counted (hr.mono (by omega)) (by rfl) T.g_counted T.F_counted.kp T.b_counted .nil (passO takes_y) (pa_cons (xv 1) pa_nil)))))
      (yss_cons (ys_for (fun _ _ _ _ => (pi_range1 (by rfl) T.m_range (pa_cons (xv 2) pa_nil))) (fun _ _ _ _ => (pg_name (i := 3) sc_settings.nd rfl (.inl rfl)))
      (yss_cons (ys_yield (fun _ _ _ _ => (pe_call G_setting_at (hr.mono (by omega)) (by rfl) T.g_setting_at T.F_setting_at.kp T.b_setting_at .nil pass0 (pa_cons (xv 1) (pa_cons (xv 3) pa_nil)))))
      yss_nil))
      yss_nil))), fun H d h => ?_⟩
  obtain ⟨G, M, l, us, rs, rfl, S, hL, hus, ro, rl, rz, q⟩ := h
  have ul := prd_len hus
  refine ⟨l, us, rfl, .inl (S.l hL), fun L1 n1 => ?_⟩
  have S1 := S.newG (o := .lst us) n1
  have s1 := S.grow (o := .lst us) n1
  have L1q : SqL K (upd G L1 (.lst us)) L1 us := SqL.of upd_same
  refine ⟨_, M, L1, us, rs, rfl, S1, L1q, rgs_same s1 hus, ro, rl, fun h => ?_, fun h => (rz h).same s1⟩
  have cp := cnt_pos ro
  refine ⟨_, rfl, by omega, by omega, yfor_range (fun i d σ H' => ∃ y3 : Option V, σ = [some (.ref l), some (.ref L1), some (.int (cnt rs : Nat)), y3] ∧ goS K T.C_TooMany (.mid L1 us rs i) H' d) ⟨_, rfl, ?_⟩ (fun i d σ H' hi h => ?_) (fun d σ H' h => ?_)⟩
  · exact ⟨_, M, S1, L1q, rgs_same s1 hus, ro, rl, h, fun _ D H' S2 => q h _ H' L1 D s1 S2 L1q, fun e => by omega⟩
  · obtain ⟨y3, rfl, G2, M2, S2, l2, u2, _, _, _, q2, _⟩ := h
    rw [Int.toNat_natCast] at hi
    have e0 : (0 : Int) + (i : Nat) = (i : Nat) := Int.zero_add _
    rw [e0]
    refine ⟨G2, M2, L1, us, rs, i, rfl, S2, l2, u2, ro, rl, fun D H3 S3 => ⟨_, q2 hi D H3 S3, fun H4 d4 g4 => ⟨_, rfl, g4⟩⟩⟩
  · obtain ⟨y3, rfl, G2, M2, S2, l2, u2, _, _, _, _, q2⟩ := h
    rw [Int.toNat_natCast] at q2
    exact q2 (Nat.le_refl _)

end
end K43
set_option Elab.async false
set_option linter.all false
set_option maxRecDepth 100000
set_option maxHeartbeats 4000000
namespace K43
open PySem PySem.Spec PyProof.Rows L2 XL
/-! ### rows of numbers as data -/
theorem dp_intsT {K : PySem.W.Frag} {G : Hp} : ∀ ns : List Int, DpAll K G (ns.map V.int) (ns.map PyData.int)
  | [] => .nil
  | n :: ns => .cons (.int n) (dp_intsT ns)
def itD (ns : List Int) : PyData := .tuple (ns.map PyData.int)
theorem dp_it {K : PySem.W.Frag} {G : Hp} {a : Addr} {ns : List Int} (h : G a = some (.tup (ns.map V.int))) : Dp K G (.ref a) (itD ns) := .tup (SqT.of h) (dp_intsT ns)
theorem lay_it (ns : List Int) : (itD ns).canLay0 = true := by
  simp only [itD, PyData.canLay0]
  exact layAll fun d hd => by
    obtain ⟨n, _, rfl⟩ := List.mem_map.mp hd
    rfl
theorem dep_it (ns : List Int) : (itD ns).depth ≤ 190 := by
  have h : PyData.depthAll (ns.map PyData.int) ≤ 2 := depthAll_le fun d hd => by
    obtain ⟨n, _, rfl⟩ := List.mem_map.mp hd
    simp only [PyData.depth]
    omega
  simp only [itD, PyData.depth]
  omega
theorem eqv_ints : ∀ a b : List Int, PyData.eqvAll (a.map PyData.int) (b.map PyData.int) = decide (a = b)
  | [], [] => by simp [PyData.eqvAll]
  | [], _ :: _ => by simp [PyData.eqvAll]
  | _ :: _, [] => by simp [PyData.eqvAll]
  | x :: a, y :: b => by
    have ih := eqv_ints a b
    have e : PyData.eqv (.int x) (.int y) = decide (x = y) := by
      by_cases h : x = y <;> simp [PyData.eqv, h]
    simp only [List.map_cons, PyData.eqvAll, ih, e]
    simp
theorem eqv_it (a b : List Int) : PyData.eqv (itD a) (itD b) = decide (a = b) := by
  simp only [itD, PyData.eqv, eqv_ints]

section
variable {P : Program} {w : World} {K : PySem.W.Frag} {mg : Str → Option Value} {base : Heap}
/-! ### parted -/
/-- the first pair of numbers below n -/
def FirstPr (n : Nat) (bd : Nat → Nat → Prop) : Option (Nat × Nat) → Prop
  | none => ∀ a b, a < b → b < n → ¬ bd a b
  | some (a, b) => a < b ∧ b < n ∧ bd a b ∧ ∀ a' b', a' < b' → b' < n → (a' < a ∨ a' = a ∧ b' < b) → ¬ bd a' b'
theorem FirstPr.one {n : Nat} {bd : Nat → Nat → Prop} : ∀ {r r' : Option (Nat × Nat)}, FirstPr n bd r → FirstPr n bd r' → r = r'
  | none, none, _, _ => rfl
  | none, some (a, b), h, h' => absurd h'.2.2.1 (h a b h'.1 h'.2.1)
  | some (a, b), none, h, h' => absurd h.2.2.1 (h' a b h.1 h.2.1)
  | some (a, b), some (a', b'), h, h' => by
    rcases Nat.lt_trichotomy a a' with z | z | z
    · exact absurd h.2.2.1 (h'.2.2.2 a b h.1 h.2.1 (.inl z))
    · rcases Nat.lt_trichotomy b b' with y | y | y
      · exact absurd h.2.2.1 (h'.2.2.2 a b h.1 h.2.1 (.inr ⟨z, y⟩))
      · rw [z, y]
      · exact absurd h'.2.2.1 (h.2.2.2 a' b' h'.1 h'.2.1 (.inr ⟨z.symm, y⟩))
    · exact absurd h'.2.2.1 (h.2.2.2 a' b' h'.1 h'.2.1 (.inl z))
/-- the values of the list at a setting -/
def kys (rs : Rg) (ls : List Str) (i : Nat) : List Int := ls.map (stg rs i)
def Bd (rs : Rg) (ls : List Str) (val : Nat → Int) (a b : Nat) : Prop := kys rs ls a = kys rs ls b ∧ val a ≠ val b
def Told (G : Hp) (rs : Rg) : Option (Nat × Nat) → V → Prop
  | none, v => v = .non
  | some (a, b), v => ∃ t d1 d2, v = .ref t ∧ G t = some (.tup [.ref d1, .ref d2]) ∧ G d1 = some (.dK (dk (rgN rs) (stg rs a))) ∧ G d2 = some (.dK (dk (rgN rs) (stg rs b)))
theorem Told.same {G G' : Hp} {rs : Rg} {r : Option (Nat × Nat)} {v : V} (e : Same G G') (h : Told G rs r v) : Told G' rs r v := by
  match r, h with
  | none, h => exact h
  | some (a, b), h =>
    obtain ⟨t, d1, d2, h1, h2, h3, h4⟩ := h
    exact ⟨t, d1, d2, h1, e _ _ h2, e _ _ h3, e _ _ h4⟩
/-- a form, ranges and a list of names -/
structure PtArg (K : PySem.W.Frag) (G : Hp) (v : V) (f : Gm) (L : Addr) (us : List V) (rs : Rg) (p : Addr) (ls : List Str) : Prop where
  hf : GmAt K G v f
  ok : f.ok (rgN rs)
  dp : f.dep ≤ 5
  lt : ∀ z ∈ rgN rs, Lt 1 8 z
  hl : SqL K G L us
  hr : RgsAt K G us rs
  ro : RgOk rs
  rl : rs.length ≤ 60
  hp : SqT K G p (ls.map V.str)
  ll : ls.length ≤ 60
  sub : ∀ x ∈ ls, x ∈ rgN rs
def spParted (K : PySem.W.Frag) (C : Addr) : Sp := fun vs H Q E => ∃ (G : Hp) (M : List (Addr × HO)) (v : V) (f : Gm) (L : Addr) (us : List V) (rs : Rg) (p : Addr) (ls : List Str), vs = [v, .ref L, .ref p] ∧ Sep G M H ∧ PtArg K G v f L us rs p ls ∧
  (256 < cnt rs → Rz G M C [("count", .int (cnt rs : Nat))] E) ∧
  (cnt rs ≤ 256 → ∀ (r : Option (Nat × Nat)) (u : V) (G' H' : Hp), FirstPr (cnt rs) (Bd rs ls fun i => f.val (stg rs i)) r → Same G G' → Sep G' M H' → Told G' rs r u → Q u H')
/-- where the generator rests -/
def StAt (K : PySem.W.Frag) (G : Hp) (us : List V) (rs : Rg) (i : Nat) (g : StS) : Prop := i = 0 ∧ (∃ l, SqL K G l us ∧ g = .ini [.ref l]) ∨ cnt rs ≤ 256 ∧ 1 ≤ i ∧ i ≤ cnt rs ∧ ∃ L1, SqL K G L1 us ∧ g = .mid L1 us rs i
theorem StAt.same {K : PySem.W.Frag} {G G' : Hp} {us : List V} {rs : Rg} {i : Nat} {g : StS} (e : Same G G') (h : StAt K G us rs i g) : StAt K G' us rs i g := by
  rcases h with ⟨h1, l, h2, h3⟩ | ⟨h1, h2, h3, l, h4, h5⟩
  · exact .inl ⟨h1, l, same_l e h2, h3⟩
  · exact .inr ⟨h1, h2, h3, l, same_l e h4, h5⟩
theorem go_all {K : PySem.W.Frag} {C : Addr} {G H : Hp} {M : List (Addr × HO)} {us : List V} {rs : Rg} {i : Nat} {g : StS} {d : YD StS} (S : Sep G M H) (hr : RgsAt K G us rs) (ro : RgOk rs) (rl : rs.length ≤ 60) (hg : StAt K G us rs i g)
    (hy : ∀ (G' H' : Hp) (D : Addr) (g' : StS), i < cnt rs → cnt rs ≤ 256 → Same G G' → Sep G' ((D, .dK (dk (rgN rs) (stg rs i))) :: M) H' → StAt K G' us rs (i + 1) g' → d.qy (.ref D) g' H')
    (rz : 256 < cnt rs → Rz G M C [("count", .int (cnt rs : Nat))] d.ex) (hd : i = cnt rs → cnt rs ≤ 256 → d.qd H) : goS K C g H d := by
  have cp := cnt_pos ro
  rcases hg with ⟨rfl, l, hl, rfl⟩ | ⟨h1, h2, h3, l, hl, rfl⟩
  · exact ⟨G, M, l, us, rs, rfl, S, hl, hr, ro, rl, rz, fun h G' H' L D s S' hL => hy G' H' D _ cp h s S' (.inr ⟨h, Nat.le_refl _, cp, L, hL, rfl⟩)⟩
  · exact ⟨G, M, S, hl, hr, ro, rl, h1, fun h D H' S' => hy G H' D _ h h1 (Same.refl _) S' (.inr ⟨h1, by omega, h, l, hl, rfl⟩), fun h => hd (by omega) h1⟩
/-- a row: the values of the list, the form's value, the setting -/
def RwAt (G : Hp) (rs : Rg) (ls : List Str) (f : Gm) (u : V) (i : Nat) : Prop := ∃ t ag D, u = .ref t ∧ G t = some (.tup [.ref ag, .int (f.val (stg rs i)), .ref D]) ∧ G ag = some (.tup ((kys rs ls i).map V.int)) ∧ G D = some (.dK (dk (rgN rs) (stg rs i)))
theorem RwAt.same {G G' : Hp} {rs : Rg} {ls : List Str} {f : Gm} {u : V} {i : Nat} (e : Same G G') (h : RwAt G rs ls f u i) : RwAt G' rs ls f u i := by
  obtain ⟨t, ag, D, h1, h2, h3, h4⟩ := h
  exact ⟨t, ag, D, h1, e _ _ h2, e _ _ h3, e _ _ h4⟩
theorem rws_at {G : Hp} {rs : Rg} {ls : List Str} {f : Gm} {ws : List V} {n i : Nat} (h : Paired (RwAt G rs ls f) ws (List.range n)) (hi : i < n) : ∃ t ag D, ws[i]? = some (.ref t) ∧ G t = some (.tup [.ref ag, .int (f.val (stg rs i)), .ref D]) ∧ G ag = some (.tup ((kys rs ls i).map V.int)) ∧ G D = some (.dK (dk (rgN rs) (stg rs i))) := by
  have hl := prd_len h
  rw [List.length_range] at hl
  have hx : ws[i]? = some ws[i] := List.getElem?_eq_getElem (by omega)
  obtain ⟨j, hj, t, ag, D, h1, h2, h3, h4⟩ := prd_get h hx
  rw [List.getElem?_range hi] at hj
  cases hj
  rw [h1] at hx
  exact ⟨t, ag, D, hx, h2, h3, h4⟩
theorem ok_parted (T : Top K mg w) (pf : PySem.XExc.PF P T.x_file) {k : Nat} (G_check_form : FnOk P w K mg base CX0 k T.a_check_form T.d_check_form ["parts"] (spCheck K)) (G_value_of : FnOk P w K mg base CX0 k T.a_value_of T.d_value_of ["parts", "values"] (spValueOf K 5))
    (G_settings : YFn P w K mg base k T.a_settings T.d_settings ["ranges"] (goS K T.C_TooMany) StS.ini) :
    FnOk P w K mg base (L2.CX P w) (k + 5) T.a_parted T.d_parted ["form", "ranges", "names"] (spParted K T.C_TooMany) := by
  refine T.F_parted.okX sc_parted (fun vs H Q E h => ?_) (fun cdv A outer s H vs Q E hr h => ?_)
  · obtain ⟨G, M, v, f, L, us, rs, p, ls, rfl, _⟩ := h
    rfl
  · obtain ⟨G, M, v, f, L, us, rs, p, ls, rfl, S, a, rz, q⟩ := h
    refine ⟨_, (pss_cons (ps_expr (pe_call G_check_form (hr.mono (by omega)) (by rfl) T.g_check_form T.F_check_form.kp T.b_check_form .nil pass0 (pa_cons (xv 0) pa_nil)))
      (pss_cons (ps_set (i := 3) sc_parted.nd rfl (.inl rfl) (pe_lst pa_nil))
      (pss_cons (ps_forY (W0 := _) (passes_of rfl) rfl (deaf_of deafX) (takes_of rfl rfl rfl rfl) (hr.mono (by omega)) (pgy_call G_settings (hr.mono (by omega)) (by rfl) T.g_settings T.F_settings.kp T.b_settings (pa_cons (xv 1) pa_nil)) (pg_name (i := 4) sc_parted.nd rfl (.inr rfl))
      (pss_cons (ps_set (i := 5) sc_parted.nd rfl (.inl rfl) (pe_callTy (call_tupleK K) (by rfl) T.m_tuple (by decide +kernel) (pa_cons (pe_lc (own := [("name", 8)]) (by rfl) sc_parted.nd (pi_tupK K (xv 2)) (blkOk_by (N := ["form", "ranges", "names", "rows", "setting", "agreed", "first", "second", "name"]) (sc := defScope s_parted) (by decide +kernel)) (fun _ _ _ _ _ => (pg_name (i := 8) sc_parted.nd rfl (.inl rfl))) (fun _ _ _ _ _ => (pts_one (pt_cmp (pc_din (hu_of hr) (xv 8) (xv 4))))) (fun _ _ _ _ _ => (pe_dget (hu_of hr) (xv 4) (xv 8) (fun _ _ => rfl)))) pa_nil)))
      (pss_one (ps_expr (pe_bmK K PySem.F.plainAttrs_list PySem.F.slot_list_append PySem.F.type_list_append mt_append (xv 3) (pa_cons (pe_tup (pa_cons (xv 5) (pa_cons (pe_call G_value_of (hr.mono (by omega)) (by rfl) T.g_value_of T.F_value_of.kp T.b_value_of .nil pass0 (pa_cons (xv 0) (pa_cons (xv 4) pa_nil))) (pa_cons (xv 4) pa_nil)))) pa_nil))))))
      (pss_cons (ps_for (passes_of rfl) rfl (pi_range1 (by rfl) T.m_range (pa_cons (pe_callB (cr_lenK K) (by rfl) T.m_len (by decide +kernel) (pa_cons (xv 3) pa_nil)) pa_nil)) (pg_name (i := 6) sc_parted.nd rfl (.inl rfl))
      (pss_one (ps_for (passes_of rfl) rfl (pi_range2 (by rfl) T.m_range (pa_cons (pe_op op_addY (xv 6) pe_int) (pa_cons (pe_callB (cr_lenK K) (by rfl) T.m_len (by decide +kernel) (pa_cons (xv 3) pa_nil)) pa_nil))) (pg_name (i := 7) sc_parted.nd rfl (.inl rfl))
      (pss_one (xs_if (PW.pt (xw_and (xt_cmp (op_eqLK K hr.u190) (pe_ix (ix_k K) (pe_ix (ix_k K) (xv 3) (xv 6) (fun _ _ => rfl)) pe_int (fun _ _ => rfl)) (pe_ix (ix_k K) (pe_ix (ix_k K) (xv 3) (xv 7) (fun _ _ => rfl)) pe_int (fun _ _ => rfl)) (nomark _)) (pw_and1 (xt_cmp (op_neLK K hr.u190) (pe_ix (ix_k K) (pe_ix (ix_k K) (xv 3) (xv 6) (fun _ _ => rfl)) pe_int (fun _ _ => rfl)) (pe_ix (ix_k K) (pe_ix (ix_k K) (xv 3) (xv 7) (fun _ _ => rfl)) pe_int (fun _ _ => rfl)) (nomark _)))))
      (pss_one (ps_ret (pe_tup (pa_cons (pe_ix (ix_k K) (pe_ix (ix_k K) (xv 3) (xv 6) (fun _ _ => rfl)) pe_int (fun _ _ => rfl)) (pa_cons (pe_ix (ix_k K) (pe_ix (ix_k K) (xv 3) (xv 7) (fun _ _ => rfl)) pe_int (fun _ _ => rfl)) pa_nil)))))
      pss_nil)))))
      (pss_one (ps_ret pe_non)))))), ?_⟩
    have pl := a.ll
    have cp := cnt_pos a.ro
    refine ⟨G, M, v, f, rgN rs, rfl, a.lt, S, a.hf, a.ok, a.dp, fun G1 H1 s1 S1 => ?_⟩
    refine ⟨sz, fun O nO => ?_⟩
    have S2 := S1.new (o := .lst []) nO
    refine ⟨rfl, fun g m σ H' => ∃ (i : Nat) (ws : List V) (G' : Hp) (y4 y5 y6 y7 y8 : Option V), σ = [some v, some (.ref L), some (.ref p), some (.ref O), y4, y5, y6, y7, y8] ∧ Same G G' ∧ Sep G' ((O, .lst ws) :: M) H' ∧ Paired (RwAt G' rs ls f) ws (List.range i) ∧ m + i = 257 ∧ i ≤ 256 ∧ StAt K G' us rs i g,
      ⟨257, 0, [], G1, _, _, _, _, _, rfl, s1, S2, .nil, rfl, by decide, .inl ⟨rfl, L, same_l s1 a.hl, rfl⟩⟩, fun g m σ H' h => ?_⟩
    obtain ⟨i, ws, G2, y4, y5, y6, y7, y8, rfl, s2, S3, hws, hm, hi6, hg⟩ := h
    refine go_all S3 (rgs_same s2 a.hr) a.ro a.rl hg (fun G3 H3 D g' hi h6 s3 S4 hg' => ?_) (fun h => ?_) (fun ei h6 => ?_)
    · have hpk := same_t (s2.trans s3) a.hp
      refine ⟨p, rfl, ⟨_, S4.t hpk⟩, fun A nA => lc_tup (xs := ls.map V.str) (fun j H' => Sep G3 ((A, .lst ((ls.take j).map fun x => V.int (stg rs i x))) :: (D, .dK (dk (rgN rs) (stg rs i))) :: (O, .lst ws) :: M) H') (S4.new nA) (fun j H' _ S' => S'.t hpk) (fun j x H' hx0 S' => ⟨rfl, ?_⟩) (fun H5 S5 => ?_)⟩
      · rw [List.getElem?_map] at hx0
        obtain ⟨x, hx, rfl⟩ := Option.map_eq_some_iff.mp hx0
        have hin := a.sub x (List.mem_of_getElem? hx)
        have jl := (List.getElem?_eq_some_iff.mp hx).1
        have hget : DGet H' D (.str x) (some (.int (stg rs i x))) := dk_get S'.sw.hd hin
        refine ⟨D, _, rfl, hget, true, rfl, ?_⟩
        refine ⟨D, _, rfl, hget, _, S'.hd, by rw [List.length_map, List.length_take]; exact smallL (by omega), ?_⟩
        rw [XL.take_snoc hx, List.map_append]
        exact S'.set
      · rw [List.length_map, List.take_length] at S5
        have ek : (ls.map fun x => V.int (stg rs i x)) = (kys rs ls i).map V.int := by
          unfold kys
          rw [List.map_map]
          rfl
        rw [ek] at S5
        refine ⟨A, _, rfl, .inl ⟨SqL.of S5.hd, fun ag na => ?_⟩⟩
        obtain ⟨G6, s6, S6, hag⟩ := Sep.mk (o := .tup ((kys rs ls i).map V.int)) S5.drop na
        refine ⟨.inl ⟨rfl, _, SqL.of S6.sw.hd⟩, ?_⟩
        refine ⟨G6, _, v, f, D, rgN rs, stg rs i, rfl, S6, a.hf.same' ((s2.trans s3).trans s6), a.ok, a.dp, S6.hd, ?_⟩
        refine ⟨sz, fun t nt => ?_⟩
        obtain ⟨G7, s7, S7, hD⟩ := Sep.keep S6
        obtain ⟨G8, s8, S8, ht⟩ := Sep.mk (o := .tup [.ref ag, .int (f.val (stg rs i)), .ref D]) S7 nt
        have wl := prd_len hws
        rw [List.length_range] at wl
        refine ⟨O, _, _, rfl, rfl, S8.hd, smallL (by omega), ?_⟩
        have s38 := ((s3.trans s6).trans s7).trans s8
        refine ⟨256 - i, by omega, i + 1, ws ++ [.ref t], G8, _, _, _, _, _, rfl, s2.trans s38, S8.set, ?_, by omega, by omega, hg'.same ((s6.trans s7).trans s8)⟩
        rw [List.range_succ]
        exact (prd_imp (fun _ _ => RwAt.same s38) hws).snoc ⟨t, ag, D, rfl, ht, s8 _ _ (s7 _ _ hag), s8 _ _ hD⟩
    · exact fun G' H' N dd s' S' n => ⟨T.ns_TooMany, rz h G' H' (N ++ [(O, .lst ws)]) dd (s2.trans s') (by rw [List.append_assoc]; exact S') n⟩
    · subst ei
      have wl := prd_len hws
      rw [List.length_range] at wl
      have fin : ∀ (r : Option (Nat × Nat)) (u : V) (G' H'' : Hp), FirstPr (cnt rs) (Bd rs ls fun i => f.val (stg rs i)) r → Same G2 G' → Sep G' ((O, .lst ws) :: M) H'' → Told G' rs r u → Q u H'' := fun r u G' H'' hr sg Sg ht =>
        q h6 r u _ H'' hr ((s2.trans sg).trans Sg.frzS) Sg.frz (ht.same Sg.frzS)
      have hn : ∀ {i : Nat}, i < cnt rs → ∃ t ag D, atI ws (i : Nat) = some (.ref t) ∧ G2 t = some (.tup [.ref ag, .int (f.val (stg rs i)), .ref D]) ∧ G2 ag = some (.tup ((kys rs ls i).map V.int)) ∧ G2 D = some (.dK (dk (rgN rs) (stg rs i))) := fun hi => by
        obtain ⟨t, ag, D, h1, h2, h3, h4⟩ := rws_at hws hi
        exact ⟨t, ag, D, atI_nat h1, h2, h3, h4⟩
      refine ⟨_, .inl (SqL.of S3.hd), _, rfl, by omega, by omega, for_range (lo := 0) (n := ((ws.length : Nat) : Int).toNat) (fun x σ H'' => ∃ (y4 y5 y6 y7 y8 : Option V), σ = [some v, some (.ref L), some (.ref p), some (.ref O), y4, y5, y6, y7, y8] ∧ H'' = H' ∧ ∀ a' b', a' < x → a' < b' → b' < cnt rs → ¬ Bd rs ls (fun i => f.val (stg rs i)) a' b') ⟨_, _, _, _, _, rfl, rfl, fun a' b' z => by omega⟩ (fun x σ H'' hx h => ?_) (fun σ H'' h => ?_)⟩
      · obtain ⟨y4, y5, y6, y7, y8, rfl, rfl, hbd⟩ := h
        rw [Int.toNat_natCast, wl] at hx
        have e0 : (0 : Int) + (x : Nat) = (x : Nat) := Int.zero_add _
        rw [e0]
        refine ⟨_, .inl (SqL.of S3.hd), _, _, rfl, ⟨by omega, by omega, by omega, by omega⟩, for_range (lo := (x : Int) + 1) (n := ((ws.length : Int) - ((x : Int) + 1)).toNat) (fun t σ H4 => ∃ (y5 y7 y8 : Option V), σ = [some v, some (.ref L), some (.ref p), some (.ref O), y4, y5, some (.int (x : Nat)), y7, y8] ∧ H4 = H'' ∧
          ∀ b', x < b' → b' < x + 1 + t → ¬ Bd rs ls (fun i => f.val (stg rs i)) x b') ⟨_, _, _, rfl, rfl, fun b' z1 z2 => by omega⟩ (fun t σ H4 ht h => ?_) (fun σ H4 h => ?_)⟩
        · obtain ⟨y5, y7, y8, rfl, rfl, hb2⟩ := h
          have hb : x + 1 + t < cnt rs := by omega
          have e1 : (x : Int) + 1 + (t : Nat) = ((x + 1 + t : Nat) : Int) := by omega
          rw [e1]
          obtain ⟨t1, a1, d1, h1, h2, h3, h4⟩ := hn hx
          obtain ⟨t2, a2, d2, k1, k2, k3, k4⟩ := hn hb
          have L1 : SqL K H4 O ws := SqL.of S3.hd
          have T1 := S3.t (SqT.of (K := K) h2)
          have T2 := S3.t (SqT.of (K := K) k2)
          refine ⟨ws, _, .inl L1, h1, _, .ref a1, .inr T1, at0, ws, _, .inl L1, k1, _, .ref a2, .inr T2, at0, itD (kys rs ls x), itD (kys rs ls (x + 1 + t)), dp_it (S3.st h3), dp_it (S3.st k3), lay_it _, lay_it _, dep_it _, ?_⟩
          rw [eqv_it]
          have nb : ¬ Bd rs ls (fun i => f.val (stg rs i)) x (x + 1 + t) → ∀ b', x < b' → b' < x + 1 + (t + 1) → ¬ Bd rs ls (fun i => f.val (stg rs i)) x b' := fun hnb b' z1 z2 => by
            by_cases hbx : b' = x + 1 + t
            · rw [hbx]
              exact hnb
            · exact hb2 b' z1 (by omega)
          refine ⟨fun e => ?_, fun e => ?_⟩
          · have ek := of_decide_eq_true e
            refine ⟨ws, _, .inl L1, h1, _, .int (f.val (stg rs x)), .inr T1, rfl, ws, _, .inl L1, k1, _, .int (f.val (stg rs (x + 1 + t))), .inr T2, rfl, fun e => ?_, fun e => ?_⟩
            · have en : ¬ f.val (stg rs x) = f.val (stg rs (x + 1 + t)) := by simpa using e
              refine ⟨ws, _, .inl L1, h1, _, .ref d1, .inr T1, rfl, ws, _, .inl L1, k1, _, .ref d2, .inr T2, rfl, sz, fun tt ntt => ?_⟩
              have S5 := S3.newG (o := .tup [.ref d1, .ref d2]) ntt
              have s5 := S3.grow (o := .tup [.ref d1, .ref d2]) ntt
              exact fin (some (x, x + 1 + t)) _ _ _ ⟨by omega, hb, ⟨ek, en⟩, fun a' b' z1 z2 z3 => by
                rcases z3 with z3 | ⟨rfl, z3⟩
                · exact hbd a' b' z3 z1 z2
                · exact hb2 b' z1 z3⟩ s5 S5 ⟨tt, d1, d2, rfl, upd_same, s5 _ _ h4, s5 _ _ k4⟩
            · have en : f.val (stg rs x) = f.val (stg rs (x + 1 + t)) := by simpa using e
              exact ⟨y5, _, y8, rfl, rfl, nb fun z => z.2 en⟩
          · exact ⟨(fun e => nomatch e), fun _ => ⟨y5, _, y8, rfl, rfl, nb fun z => of_decide_eq_false e z.1⟩⟩
        · obtain ⟨y5, y7, y8, rfl, rfl, hb2⟩ := h
          refine ⟨_, _, _, _, _, rfl, rfl, fun a' b' z1 z2 z3 => ?_⟩
          by_cases hax : a' = x
          · subst hax
            exact hb2 b' z2 (by omega)
          · exact hbd a' b' (by omega) z2 z3
      · obtain ⟨y4, y5, y6, y7, y8, rfl, rfl, hbd⟩ := h
        rw [Int.toNat_natCast, wl] at hbd
        exact fin none .non G2 _ (fun a' b' z1 z2 => hbd a' b' (by omega) z1 z2) (Same.refl _) S3 rfl

end
end K43
set_option Elab.async false
set_option linter.all false
set_option maxRecDepth 100000
set_option maxHeartbeats 4000000
namespace K43
open PySem PySem.Spec PyProof.Rows L2 XL
section
variable {P : Program} {w : World} {K : PySem.W.Frag} {mg : Str → Option Value} {base : Heap}
/-! ### the board -/
def OwA (G : Hp) (v : V) (n : Int) : Prop := ∃ a b, v = .ref a ∧ G a = some (.tup [.ref b]) ∧ G b = some (.tup [.int n])
theorem OwA.same {G G' : Hp} (e : Same G G') {v : V} {n : Int} (h : OwA G v n) : OwA G' v n := let ⟨a, b, h1, h2, h3⟩ := h; ⟨a, b, h1, e _ _ h2, e _ _ h3⟩
/-- an entry: the owner ((n,),), the word, the value, the values of the list -/
def EnA (G : Hp) (n : Int) (wd : Str) (u : V) (c : Int × List Int) : Prop := ∃ t ow sn, u = .ref t ∧ G t = some (.tup [ow, .str wd, .int c.1, .ref sn]) ∧ OwA G ow n ∧ G sn = some (.tup (c.2.map V.int))
theorem EnA.same {G G' : Hp} (e : Same G G') {n : Int} {wd : Str} {u : V} {c : Int × List Int} (h : EnA G n wd u c) : EnA G' n wd u c := let ⟨t, ow, sn, h1, h2, h3, h4⟩ := h; ⟨t, ow, sn, h1, e _ _ h2, h3.same e, e _ _ h4⟩
/-- what the board holds -/
def BdA (G : Hp) (n : Int) (wd : Str) (es : List V) : Option (Int × List Int) → Prop
  | none => es = []
  | some c => ∃ u, es = [u] ∧ EnA G n wd u c
theorem BdA.same {G G' : Hp} (e : Same G G') {n : Int} {wd : Str} {es : List V} : ∀ {bd : Option (Int × List Int)}, BdA G n wd es bd → BdA G' n wd es bd
  | none, h => h
  | some c, ⟨u, h1, h2⟩ => ⟨u, h1, h2.same e⟩
def bdN : Option (Int × List Int) → Int × List Int → Int × List Int
  | none, c => c
  | some d, c => if d.2 = c.2 then d else c
def kyD (n : Int) (wd : Str) : PyData := .tuple [.tuple [.tuple [.int n]], .str wd]
theorem loop_list {K : PySem.W.Frag} {a : Addr} {xs : List V} {H0 : Hp} {Qd : Hp → Prop} {body : V → Hp → (Hp → Prop) → Prop} (Pv : Nat → Hp → Prop) (h0 : Pv 0 H0) (hl : ∀ i H, i ≤ xs.length → Pv i H → SqL K H a xs)
    (hs : ∀ i x H, xs[i]? = some x → Pv i H → body x H (Pv (i + 1))) (hd : ∀ H, Pv xs.length H → Qd H) :
    ∃ W : Nat → Nat → Hp → Prop, (∃ m, W 0 m H0) ∧ ∀ i m H, W i m H →
      ((Itl K a).stop i H ∧ Qd H) ∨ ((Itl K a).go i H ∧ ∃ Nx : Hp → Prop, (∀ H', Nx H' → ∃ m', m' < m ∧ W (i + 1) m' H') ∧ ∀ x H', (Itl K a).yld i H x H' → body x H' Nx) := by
  refine ⟨fun i m H => m = xs.length - i ∧ i ≤ xs.length ∧ Pv i H, ⟨xs.length, by simp, Nat.zero_le _, h0⟩, ?_⟩
  rintro i m H ⟨rfl, hi, p⟩
  have q := hl i H hi p
  by_cases hlt : i < xs.length
  · refine .inr ⟨⟨xs, xs[i], q, by simp [hlt]⟩, Pv (i + 1), fun H' p' => ⟨xs.length - (i + 1), by omega, rfl, hlt, p'⟩, fun x H' y => ?_⟩
    obtain ⟨e, y⟩ := y
    subst e
    exact hs i x _ (y xs q) p
  · have e : i = xs.length := by omega
    subst e
    exact .inl ⟨⟨xs, q, Nat.le_refl _⟩, hd H p⟩
theorem one_at {u x : V} {i : Nat} (h : [u][i]? = some x) : i = 0 ∧ x = u := by
  match i, h with
  | 0, h => exact ⟨rfl, by cases h; rfl⟩
theorem key_ow {K : PySem.W.Frag} {G : Hp} {ow : V} {n : Int} {wd : Str} {b : Addr} (lt : Lt 1 8 wd) (h : OwA G ow n) (hb : G b = some (.tup [ow, .str wd])) : KeyV K G b (nrm (kyD n wd)) := by
  obtain ⟨a, a2, rfl, h1, h2⟩ := h
  refine ⟨kyD n wd, .tup (SqT.of hb) (.cons (.tup (SqT.of h1) (.cons (.tup (SqT.of h2) (.cons (.int n) .nil)) .nil)) (.cons (.str wd) .nil)), by
    simp only [kyD, keyD, keyDs, Bool.and_true, Bool.true_and]
    exact (Fit.name lt).cl, by simp [kyD, PyData.depth, PyData.depthAll], rfl⟩
theorem get_one {k : PyData} {v : V} : valV (putK [] k v) k = some v := by
  simp [valV, putK]
def spEInit (C : Addr) : Sp := fun vs H Q _ => ∃ (G : Hp) (M : List (Addr × HO)) (e de : Addr), vs = [.ref e] ∧ Sep G ((e, .ins C de []) :: M) H ∧ ∀ (l : Addr) (H' : Hp), Sep G ((e, .ins C de [("held", .ref l)]) :: (l, .lst []) :: M) H' → Q .non H'
theorem ok_EInit (T : Top K mg w) {k : Nat} : FnOk P w K mg base CX0 (k + 1) T.a_Effects_init T.d_Effects_init ["self"] (spEInit T.C_Effects) := by
  refine T.F_Effects_init.ok sc_Effects_init (fun vs H Q E h => ?_) (fun cdv A outer s H vs Q E hr h => ?_)
  · obtain ⟨G, M, e, de, rfl, _⟩ := h
    rfl
  · obtain ⟨G, M, e, de, rfl, S, q⟩ := h
    refine ⟨_, (pss_one (ps_fld (xv 0) (pe_lst pa_nil) rfl)), ?_⟩
    refine ⟨sz, fun l nl => ?_⟩
    have S1 := (S.new (o := .lst []) nl).sw
    exact ⟨e, T.C_Effects, de, [], rfl, S1.hd, T.cl_Effects, T.na_Effects_held, by decide, q l _ S1.set⟩
/-- a row (owner, word, value) -/
def ArA (G : Hp) (n : Int) (wd : Str) (u : V) (v : Int) : Prop := ∃ t ow, u = .ref t ∧ G t = some (.tup [ow, .str wd, .int v]) ∧ OwA G ow n
theorem ArA.same {G G' : Hp} (e : Same G G') {n : Int} {wd : Str} {u : V} {v : Int} (h : ArA G n wd u v) : ArA G' n wd u v := let ⟨t, ow, h1, h2, h3⟩ := h; ⟨t, ow, h1, e _ _ h2, h3.same e⟩
def spArmed (K : PySem.W.Frag) (C : Addr) : Sp := fun vs H Q _ => ∃ (G : Hp) (M : List (Addr × HO)) (e de l : Addr) (es : List V) (n : Int) (wd : Str) (c : Int × List Int), vs = [.ref e] ∧ Sep G ((e, .ins C de [("held", .ref l)]) :: (l, .lst es) :: M) H ∧ BdA G n wd es (some c) ∧
  ∀ (D : Addr) (u : V) (G' H' : Hp), Same G G' → Sep G' ((D, .lst [u]) :: (e, .ins C de [("held", .ref l)]) :: (l, .lst es) :: M) H' → ArA G' n wd u c.1 → Q (.ref D) H'
theorem ok_armed (T : Top K mg w) {k : Nat} : FnOk P w K mg base CX0 (k + 1) T.a_Effects_armed T.d_Effects_armed ["self"] (spArmed K T.C_Effects) := by
  refine T.F_Effects_armed.ok sc_Effects_armed (fun vs H Q E h => ?_) (fun cdv A outer s H vs Q E hr h => ?_)
  · obtain ⟨G, M, e, de, l, es, n, wd, c, rfl, _⟩ := h
    rfl
  · obtain ⟨G, M, e, de, l, es, n, wd, c, rfl, S, ⟨u, rfl, t, ow, sn, rfl, ht, how, hsn⟩, q⟩ := h
    refine ⟨_, (pss_one (ps_ret (pe_lc (own := [("entry", 1)]) (by rfl) sc_Effects_armed.nd (pi_listK K (pe_fldK K (xv 0))) (blkOk_by (N := ["self", "entry"]) (sc := defScope s_Effects_armed) (by decide +kernel)) (fun _ _ _ _ _ => (pg_name (i := 1) sc_Effects_armed.nd rfl (.inl rfl))) (fun _ _ _ _ _ => pts_nil) (fun _ _ _ _ _ => (pe_tup (pa_cons (pe_ix (ix_k K) (xv 1) pe_int (fun _ _ => rfl)) (pa_cons (pe_ix (ix_k K) (xv 1) pe_int (fun _ _ => rfl)) (pa_cons (pe_ix (ix_k K) (xv 1) pe_int (fun _ _ => rfl)) pa_nil)))))))), ?_⟩
    refine ⟨e, T.C_Effects, de, _, .ref l, rfl, S.hd, T.cl_Effects, T.na_Effects_held, rfl, l, rfl, ⟨_, SqL.of S.sw.hd⟩, fun D nD => lc_list (xs := [.ref t]) (fun i H' => ∃ (G' : Hp) (us : List V), Same G G' ∧ us.length = i ∧ (∀ u ∈ us, ArA G' n wd u c.1) ∧ Sep G' ((D, .lst us) :: (e, .ins T.C_Effects de [("held", .ref l)]) :: (l, .lst [.ref t]) :: M) H') ⟨G, [], Same.refl _, rfl, (fun _ h => nomatch h), S.new nD⟩ (fun i H' _ h => ?_) (fun i x H' hx h => ⟨rfl, ?_⟩) (fun H' h => ?_)⟩
    · obtain ⟨G', us, _, _, _, S'⟩ := h
      exact SqL.of S'.drop.sw.hd
    · obtain ⟨G1, us, s1, ul, hus, S1⟩ := h
      have hi := (List.getElem?_eq_some_iff.mp hx).1
      rw [List.length_singleton] at hi
      have i0 : i = 0 := by omega
      subst i0
      cases hx
      have hT := SqT.of (K := K) (S1.st (s1 _ _ ht))
      refine ⟨_, _, .inr hT, at0, _, .str wd, .inr hT, rfl, _, .int c.1, .inr hT, rfl, sz, fun r nr => ?_⟩
      obtain ⟨G2, s2, S2, h2⟩ := Sep.mk (o := .tup [ow, .str wd, .int c.1]) S1 nr
      refine ⟨us, S2.hd, by rw [ul]; decide, G2, us ++ [.ref r], s1.trans s2, by rw [List.length_append, ul]; rfl, fun u hu => ?_, S2.set⟩
      rcases List.mem_append.mp hu with hu | hu
      · exact (hus u hu).same s2
      · rw [List.mem_singleton.mp hu]
        exact ⟨r, ow, rfl, h2, (how.same s1).same s2⟩
    · obtain ⟨G1, us, s1, ul, hus, S1⟩ := h
      match us, ul with
      | [u], _ => exact q D u G1 H' s1 S1 (hus u List.mem_cons_self)
def spBehind (K : PySem.W.Frag) (C : Addr) : Sp := fun vs H Q _ => ∃ (G : Hp) (M : List (Addr × HO)) (e z de l : Addr) (es zs : List V) (n : Int) (wd : Str) (c c2 : Int × List Int), vs = [.ref e, .ref z] ∧ Lt 1 8 wd ∧ Sep G ((e, .ins C de [("held", .ref l)]) :: (l, .lst es) :: M) H ∧ BdA G n wd es (some c) ∧ SqL K G z zs ∧ BdA G n wd zs (some c2) ∧
  ∀ (D : Addr) (ds : List V) (G' H' : Hp), Same G G' → Sep G' ((D, .lst ds) :: (e, .ins C de [("held", .ref l)]) :: (l, .lst es) :: M) H' → (c.1 = c2.1 → ds = []) → (c.1 ≠ c2.1 → ∃ t ow, ds = [.ref t] ∧ G' t = some (.tup [ow, .str wd, .int c.1, .int c2.1]) ∧ OwA G' ow n) → Q (.ref D) H'
theorem ok_behind (T : Top K mg w) {k : Nat} (G_Effects_armed : FnOk P w K mg base CX0 k T.a_Effects_armed T.d_Effects_armed ["self"] (spArmed K T.C_Effects)) : FnOk P w K mg base CX0 (k + 12) T.a_behind T.d_behind ["board", "entries"] (spBehind K T.C_Effects) := by
  refine T.F_behind.ok sc_behind (fun vs H Q E h => ?_) (fun cdv A outer s H vs Q E hr h => ?_)
  · obtain ⟨G, M, e, z, de, l, es, zs, n, wd, c, c2, rfl, _⟩ := h
    rfl
  · obtain ⟨G, M, e, z, de, l, es, zs, n, wd, c, c2, rfl, lt, S, hb, hz, ⟨u2, rfl, t2, ow2, sn2, rfl, ht2, how2, hsn2⟩, q⟩ := h
    refine ⟨_, (pss_cons (ps_setDcD K w hr.u9 (i := 5) (own := [("owner", 2), ("word", 3), ("value", 4)]) (by rfl) sc_behind.nd rfl rfl (sw_trueD rfl rfl rfl (by decide +kernel)) (pi_listK K (pe_meth0 (xv 0) T.cl_Effects T.me_Effects_armed G_Effects_armed (hr.mono (by omega)) T.b_Effects_armed .nil pass0)) (blkOk_by (N := ["board", "entries", "owner", "word", "value", "armed", "rows", "seen", "pair"]) (sc := defScope s_behind) (by decide +kernel)) (fun _ _ _ _ _ => (pg_tupK K 3 (pgs_cons (pg_name (i := 2) sc_behind.nd rfl (.inl rfl)) (pgs_cons (pg_name (i := 3) sc_behind.nd rfl (.inl rfl)) (pgs_cons (pg_name (i := 4) sc_behind.nd rfl (.inl rfl)) pgs_nil))))) (fun _ _ _ _ _ => pts_nil) (fun _ _ _ _ _ => (pe_tup (pa_cons (xv 2) (pa_cons (xv 3) pa_nil)))) (fun _ _ _ _ _ => (xv 4)))
      (pss_cons (ps_set (i := 6) sc_behind.nd rfl (.inl rfl) (pe_lst pa_nil))
      (pss_cons (ps_for PassesOwn.never rfl (pi_listK K (xv 1)) (pg_tupK K 4 (pgs_cons (pg_name (i := 2) sc_behind.nd rfl (.inl rfl)) (pgs_cons (pg_name (i := 3) sc_behind.nd rfl (.inl rfl)) (pgs_cons (pg_name (i := 4) sc_behind.nd rfl (.inl rfl)) (pgs_cons (pg_name (i := 7) sc_behind.nd rfl (.inl rfl)) pgs_nil)))))
      (pss_cons (ps_set (i := 8) sc_behind.nd rfl (.inl rfl) (pe_tup (pa_cons (xv 2) (pa_cons (xv 3) pa_nil))))
      (pss_one (xs_if (PW.pt (xw_and (pt_cmp (pc_ddin K w hr.u9 (xv 8) (xv 5))) (pw_and1 (xt_cmp (op_neLK K hr.u190) (pe_ddget K w hr.u9 (xv 5) (xv 8) (fun _ _ => rfl)) (xv 4) (nomark _)))))
      (pss_one (ps_expr (pe_bmK K PySem.F.plainAttrs_list PySem.F.slot_list_append PySem.F.type_list_append mt_append (xv 6) (pa_cons (pe_tup (pa_cons (xv 2) (pa_cons (xv 3) (pa_cons (pe_ddget K w hr.u9 (xv 5) (xv 8) (fun _ _ => rfl)) (pa_cons (xv 4) pa_nil))))) pa_nil))))
      pss_nil))))
      (pss_one (ps_ret (xv 6)))))), ?_⟩
    refine ⟨e, de, _, rfl, S.hd, rfl, G, M, e, de, l, es, n, wd, c, rfl, S, hb, fun A u G1 H1 s1 S1 hu => ?_⟩
    obtain ⟨t, ow, rfl, ht, how⟩ := hu
    refine ⟨A, rfl, ⟨_, SqL.of S1.hd⟩, fun D o0 nD d0 => loop_list (xs := [.ref t]) (fun i H' => ∃ (G' : Hp) (o : HO) (kvs : List (PyData × V)), Same G1 G' ∧ (i = 0 → kvs = []) ∧ (i = 1 → kvs = putK [] (nrm (kyD n wd)) (.int c.1)) ∧ DD K w G' D o kvs ∧ Sep G' ((D, o) :: (A, .lst [.ref t]) :: (e, .ins T.C_Effects de [("held", .ref l)]) :: (l, .lst es) :: M) H') ⟨G1, o0, [], Same.refl _, fun _ => rfl, (fun h => nomatch h), d0 G1, S1.new nD⟩ (fun i H' _ h => ?_) (fun i x H' hx h => ?_) (fun H2 h => ?_)⟩
    · obtain ⟨_, _, _, _, _, _, _, S'⟩ := h
      exact SqL.of S'.drop.hd
    · obtain ⟨G2, o, kvs, s2, k0, _, dd, S2⟩ := h
      obtain ⟨rfl, rfl⟩ := one_at hx
      have k0 := k0 rfl
      subst k0
      refine ⟨t, _, rfl, S2.t (SqT.of (s2 _ _ ht)), rfl, _, _, rfl, _, _, rfl, _, _, rfl, rfl, rfl, ?_⟩
      refine ⟨sz, fun b nb => ?_⟩
      obtain ⟨G3, s3, S3, h3⟩ := Sep.mk (o := .tup [ow, .str wd]) S2 nb
      refine ⟨G3, b, o, [], nrm (kyD n wd), rfl, S3.hd, S3.1, dd.same s3, key_ow lt ((how.same s2).same s3) h3, by decide, fun o' d' => ⟨G3, o', _, s2.trans s3, (fun h => nomatch h), fun _ => rfl, d', S3.set⟩⟩
    · obtain ⟨G2, o, kvs, s2, _, k1, dd, S2⟩ := h
      have k1 := k1 rfl
      subst k1
      refine ⟨sz, fun R nR => ?_⟩
      have S3 := S2.new (o := .lst []) nR
      have s12 := s1.trans s2
      refine ⟨z, rfl, ⟨_, S3.l (same_l s12 hz)⟩, for_list (xs := [.ref t2]) (fun i σ H' => ∃ (y2 y3 y4 y7 y8 : Option V) (G' : Hp) (ds : List V), σ = [some (.ref e), some (.ref z), y2, y3, y4, some (.ref D), some (.ref R), y7, y8] ∧ Same G2 G' ∧ (i = 0 → ds = []) ∧ (i = 1 → (c.1 = c2.1 → ds = []) ∧ (c.1 ≠ c2.1 → ∃ t ow, ds = [.ref t] ∧ G' t = some (.tup [ow, .str wd, .int c.1, .int c2.1]) ∧ OwA G' ow n)) ∧
        Sep G' ((R, .lst ds) :: (D, o) :: (A, .lst [.ref t]) :: (e, .ins T.C_Effects de [("held", .ref l)]) :: (l, .lst es) :: M) H') ⟨_, _, _, _, _, G2, [], rfl, Same.refl _, fun _ => rfl, (fun h => nomatch h), S3⟩ (fun i σ H' _ h => ?_) (fun i x σ H' hx h => ?_) (fun σ H' h => ?_)⟩
      · obtain ⟨_, _, _, _, _, G4, _, _, s4, _, _, S4⟩ := h
        exact S4.l (same_l (s12.trans s4) hz)
      · obtain ⟨y2, y3, y4, y7, y8, G4, ds, rfl, s4, k0, _, S4⟩ := h
        obtain ⟨rfl, rfl⟩ := one_at hx
        have k0 := k0 rfl
        subst k0
        refine ⟨t2, _, rfl, S4.t (SqT.of (s4 _ _ (s12 _ _ ht2))), rfl, _, _, rfl, _, _, rfl, _, _, rfl, _, _, rfl, rfl, ?_⟩
        refine ⟨sz, fun b nb => ?_⟩
        obtain ⟨G5, s5, S5, h5⟩ := Sep.mk (o := .tup [ow2, .str wd]) S4 nb
        have how5 := ((how2.same s12).same s4).same s5
        have kv := key_ow (K := K) lt how5 h5
        have dd5 := (dd.same s4).same s5
        have hD5 := S5.sw.hd
        have hg5 : DD K w H' D o (putK [] (nrm (kyD n wd)) (.int c.1)) := (dd.same s4).same S4.1
        have g5 : valV (putK [] (nrm (kyD n wd)) (V.int c.1)) (nrm (kyD n wd)) = some (.int c.1) := get_one
        have T5 : (valV (putK [] (nrm (kyD n wd)) (V.int c.1)) (nrm (kyD n wd))).isSome = true := by rw [g5]; rfl
        refine ⟨D, b, o, _, _, rfl, rfl, hD5, dd5.same S5.1, kv.same S5.1, _, rfl, fun _ => ?_, fun e => by rw [T5] at e; cases e⟩
        refine ⟨D, b, o, _, _, _, rfl, rfl, hD5, dd5.same S5.1, kv.same S5.1, g5, fun e => ?_, fun e => ?_⟩
        · have ne : ¬ c.1 = c2.1 := by simpa using e
          refine ⟨.inl ⟨rfl, _, SqL.of S5.hd⟩, D, b, o, _, _, _, rfl, rfl, hD5, dd5.same S5.1, kv.same S5.1, g5, sz, fun r nr => ?_⟩
          obtain ⟨G6, s6, S6, h6⟩ := Sep.mk (o := .tup [ow2, .str wd, .int c.1, .int c2.1]) S5 nr
          exact ⟨R, _, _, rfl, rfl, S6.hd, by decide, _, _, _, _, _, G6, [.ref r], rfl, (s4.trans s5).trans s6, (fun h => nomatch h), fun _ => ⟨fun e => absurd e ne, fun _ => ⟨r, ow2, rfl, h6, how5.same s6⟩⟩, S6.set⟩
        · have eq : c.1 = c2.1 := by simpa using e
          exact ⟨_, _, _, _, _, G5, [], rfl, s4.trans s5, fun _ => rfl, fun _ => ⟨fun _ => rfl, fun ne => absurd eq ne⟩, S5⟩
      · obtain ⟨y2, y3, y4, y7, y8, G4, ds, rfl, s4, _, k1, S4⟩ := h
        obtain ⟨k1, k2⟩ := k1 rfl
        obtain ⟨G5, s5, S5, _⟩ := Sep.keep S4.sw
        obtain ⟨G6, s6, S6, _⟩ := Sep.keep S5.sw
        have s46 := s5.trans s6
        exact q R ds G6 H' ((s12.trans s4).trans s46) S6 k1 fun ne => by
          obtain ⟨t, ow, h1, h2, h3⟩ := k2 ne
          exact ⟨t, ow, h1, s46 _ _ h2, h3.same s46⟩
def spBring (K : PySem.W.Frag) (C : Addr) : Sp := fun vs H Q _ => ∃ (G : Hp) (M : List (Addr × HO)) (e z de l : Addr) (es zs : List V) (n : Int) (wd : Str) (bd : Option (Int × List Int)) (c : Int × List Int), vs = [.ref e, .ref z] ∧ Lt 1 8 wd ∧ Sep G ((e, .ins C de [("held", .ref l)]) :: (l, .lst es) :: M) H ∧ BdA G n wd es bd ∧ SqL K G z zs ∧ BdA G n wd zs (some c) ∧
  ∀ (D l' : Addr) (ds es' : List V) (G' H' : Hp), Same G G' → Sep G' ((D, .lst ds) :: (e, .ins C de [("held", .ref l')]) :: (l', .lst es') :: M) H' → BdA G' n wd es' (some (bdN bd c)) → ((∃ v, bd = some (v, c.2)) → ds = []) → Q (.ref D) H'
theorem Sep.pull {G H : Hp} {A M : List (Addr × HO)} {x : Addr × HO} (S : Sep G (A ++ x :: M) H) : Sep G (x :: (A ++ M)) H := S.perm List.perm_middle
theorem Sep.push {G H : Hp} {A M : List (Addr × HO)} {x : Addr × HO} (S : Sep G (x :: (A ++ M)) H) : Sep G (A ++ x :: M) H := S.perm List.perm_middle.symm
theorem Sep.setAt {G H : Hp} {A M : List (Addr × HO)} {a : Addr} {o o' : HO} (S : Sep G (A ++ (a, o) :: M) H) : Sep G (A ++ (a, o') :: M) (upd H a o') := Sep.push (Sep.set (o' := o') (Sep.pull S))
theorem Sep.here {G H : Hp} {A M : List (Addr × HO)} {a : Addr} {o : HO} (S : Sep G (A ++ (a, o) :: M) H) : H a = some o := Sep.hd (Sep.pull S)
theorem bd_at {G : Hp} {n : Int} {wd : Str} {es : List V} {bd : Option (Int × List Int)} {i : Nat} {x : V} (h : BdA G n wd es bd) (hx : es[i]? = some x) : ∃ d, bd = some d ∧ es = [x] ∧ i = 0 ∧ EnA G n wd x d := by
  match bd, h with
  | none, h => rw [show es = [] from h] at hx; simp at hx
  | some d, ⟨u, h1, h2⟩ =>
    rw [h1] at hx
    obtain ⟨h3, h4⟩ := one_at hx
    subst h4
    exact ⟨d, rfl, h1, h3, h2⟩
def Sm (bd : Option (Int × List Int)) (c : Int × List Int) : Prop := ∃ d, bd = some d ∧ d.2 = c.2
theorem ok_bring (T : Top K mg w) {k : Nat} : FnOk P w K mg base CX0 (k + 12) T.a_Effects_bring T.d_Effects_bring ["self", "entries"] (spBring K T.C_Effects) := by
  refine T.F_Effects_bring.ok sc_Effects_bring (fun vs H Q E h => ?_) (fun cdv A outer s H vs Q E hr h => ?_)
  · obtain ⟨G, M, e, z, de, l, es, zs, n, wd, bd, c, rfl, _⟩ := h
    rfl
  · obtain ⟨G, M, e, z, de, l, es, zs, n, wd, bd, c, rfl, lt, S, hb, hz, ⟨u, rfl, hu⟩, q⟩ := h
    refine ⟨_, (pss_cons (ps_set (i := 2) sc_Effects_bring.nd rfl (.inl rfl) (pe_dnewD K w))
      (pss_cons (ps_for PassesOwn.never rfl (pi_listK K (xv 1)) (pg_tupK K 4 (pgs_cons (pg_name (i := 3) sc_Effects_bring.nd rfl (.inl rfl)) (pgs_cons (pg_name (i := 4) sc_Effects_bring.nd rfl (.inl rfl)) (pgs_cons (pg_name (i := 5) sc_Effects_bring.nd rfl (.inl rfl)) (pgs_cons (pg_name (i := 6) sc_Effects_bring.nd rfl (.inl rfl)) pgs_nil)))))
      (pss_cons (xs_if (pt_cmp (pc_ddin K w hr.u9 (pe_tup (pa_cons (xv 3) (pa_cons (xv 4) pa_nil))) (xv 2)))
      (pss_one ps_never)
      pss_nil)
      (pss_one (ps_ddput K w hr.u9 (xv 2) (pe_tup (pa_cons (xv 3) (pa_cons (xv 4) pa_nil))) (xv 6) rfl))))
      (pss_cons (ps_set (i := 7) sc_Effects_bring.nd rfl (.inl rfl) (pe_lst pa_nil))
      (pss_cons (ps_set (i := 8) sc_Effects_bring.nd rfl (.inl rfl) (pe_lst pa_nil))
      (pss_cons (ps_for PassesOwn.never rfl (pi_listK K (pe_fldK K (xv 0))) (pg_name (i := 9) sc_Effects_bring.nd rfl (.inl rfl))
      (pss_cons (ps_set (i := 10) sc_Effects_bring.nd rfl (.inl rfl) (pe_tup (pa_cons (pe_ix (ix_k K) (xv 9) pe_int (fun _ _ => rfl)) (pa_cons (pe_ix (ix_k K) (xv 9) pe_int (fun _ _ => rfl)) pa_nil))))
      (pss_one (xs_if (PW.pt (xw_and (pt_cmp (pc_ddin K w hr.u9 (xv 10) (xv 2))) (pw_and1 (xt_cmp (op_eqLK K hr.u190) (pe_ddget K w hr.u9 (xv 2) (xv 10) (fun _ _ => rfl)) (pe_ix (ix_k K) (xv 9) pe_int (fun _ _ => rfl)) (nomark _)))))
      (pss_one (ps_expr (pe_bmK K PySem.F.plainAttrs_list PySem.F.slot_list_append PySem.F.type_list_append mt_append (xv 7) (pa_cons (xv 9) pa_nil))))
      (pss_one (ps_expr (pe_bmK K PySem.F.plainAttrs_list PySem.F.slot_list_append PySem.F.type_list_append mt_append (xv 8) (pa_cons (xv 9) pa_nil))))))))
      (pss_cons (ps_setLc (i := 11) (own := [("entry", 9)]) (by rfl) sc_Effects_bring.nd rfl rfl (sw_true rfl rfl rfl (by decide +kernel)) (pi_listK K (pe_revK K (xv 8) (pe_str (pe_un un_neg pe_int) fun _ _ _ h => ⟨1, rfl, h⟩))) (blkOk_by (N := ["self", "entries", "wanted", "owner", "word", "value", "seen", "stays", "goes", "entry", "pair", "log", "kept"]) (sc := defScope s_Effects_bring) (by decide +kernel)) (fun _ _ _ _ _ => (pg_name (i := 9) sc_Effects_bring.nd rfl (.inl rfl))) (fun _ _ _ _ _ => pts_nil) (fun _ _ _ _ _ => (pe_tup (pa_cons pe_str (pa_cons (pe_ix (ix_k K) (xv 9) pe_int (fun _ _ => rfl)) (pa_cons (pe_ix (ix_k K) (xv 9) pe_int (fun _ _ => rfl)) (pa_cons (pe_ix (ix_k K) (xv 9) pe_int (fun _ _ => rfl)) pa_nil)))))))
      (pss_cons (ps_setDcD K w hr.u9 (i := 12) (own := [("entry", 9)]) (by rfl) sc_Effects_bring.nd rfl rfl (sw_trueD rfl rfl rfl (by decide +kernel)) (pi_listK K (xv 7)) (blkOk_by (N := ["self", "entries", "wanted", "owner", "word", "value", "seen", "stays", "goes", "entry", "pair", "log", "kept"]) (sc := defScope s_Effects_bring) (by decide +kernel)) (fun _ _ _ _ _ => (pg_name (i := 9) sc_Effects_bring.nd rfl (.inl rfl))) (fun _ _ _ _ _ => pts_nil) (fun _ _ _ _ _ => (pe_tup (pa_cons (pe_ix (ix_k K) (xv 9) pe_int (fun _ _ => rfl)) (pa_cons (pe_ix (ix_k K) (xv 9) pe_int (fun _ _ => rfl)) pa_nil)))) (fun _ _ _ _ _ => pe_bl))
      (pss_cons (ps_for PassesOwn.never rfl (pi_listK K (xv 1)) (pg_tupK K 4 (pgs_cons (pg_name (i := 3) sc_Effects_bring.nd rfl (.inl rfl)) (pgs_cons (pg_name (i := 4) sc_Effects_bring.nd rfl (.inl rfl)) (pgs_cons (pg_name (i := 5) sc_Effects_bring.nd rfl (.inl rfl)) (pgs_cons (pg_name (i := 6) sc_Effects_bring.nd rfl (.inl rfl)) pgs_nil)))))
      (pss_one (xs_if (pt_cmp (pc_ddnotin K w hr.u9 (pe_tup (pa_cons (xv 3) (pa_cons (xv 4) pa_nil))) (xv 12)))
      (pss_cons (ps_expr (pe_bmK K PySem.F.plainAttrs_list PySem.F.slot_list_append PySem.F.type_list_append mt_append (xv 7) (pa_cons (pe_tup (pa_cons (xv 3) (pa_cons (xv 4) (pa_cons (xv 5) (pa_cons (xv 6) pa_nil))))) pa_nil)))
      (pss_one (ps_expr (pe_bmK K PySem.F.plainAttrs_list PySem.F.slot_list_append PySem.F.type_list_append mt_append (xv 11) (pa_cons (pe_tup (pa_cons pe_str (pa_cons (xv 3) (pa_cons (xv 4) (pa_cons (xv 5) pa_nil))))) pa_nil)))))
      pss_nil)))
      (pss_cons (ps_fld (xv 0) (xv 7) rfl)
      (pss_one (ps_ret (xv 11)))))))))))), ?_⟩
    obtain ⟨t, ow, sn, rfl, ht, how, hsn⟩ := hu
    have el : es.length ≤ 1 := by
      match bd, hb with
      | none, h => rw [show es = [] from h]; decide
      | some d, ⟨u, h1, _⟩ => rw [h1]; exact Nat.le_refl _
    -- what is wanted
    refine fun W o0 nW d0 => ?_
    have S1 := S.new (o := o0) nW
    refine ⟨z, rfl, ⟨_, S1.l hz⟩, for_list (xs := [.ref t]) (fun i σ H' => ∃ (G' : Hp) (o : HO) (kvs : List (PyData × V)) (y3 y4 y5 y6 y7 y8 y9 y10 y11 y12 : Option V), σ = [some (.ref e), some (.ref z), some (.ref W), y3, y4, y5, y6, y7, y8, y9, y10, y11, y12] ∧ Same G G' ∧ (i = 0 → kvs = []) ∧ (i = 1 → kvs = putK [] (nrm (kyD n wd)) (.ref sn)) ∧ DD K w G' W o kvs ∧ Sep G' ((W, o) :: (e, .ins T.C_Effects de [("held", .ref l)]) :: (l, .lst es) :: M) H') ⟨G, o0, [], _, _, _, _, _, _, _, _, _, _, rfl, Same.refl _, fun _ => rfl, (fun h => nomatch h), d0 G, S1⟩ (fun i σ H' _ h => ?_) (fun i x σ H' hx h => ?_) (fun σ H2 h => ?_)⟩
    · obtain ⟨G2, o, kvs, _, _, _, _, _, _, _, _, _, _, _, s2, _, _, dd, S2⟩ := h
      exact S2.l (same_l s2 hz)
    · obtain ⟨G2, o, kvs, y3, y4, y5, y6, y7, y8, y9, y10, y11, y12, rfl, s2, k0, _, dd, S2⟩ := h
      obtain ⟨rfl, rfl⟩ := one_at hx
      have k0 := k0 rfl
      subst k0
      refine ⟨t, _, rfl, S2.t (SqT.of (s2 _ _ ht)), rfl, _, _, rfl, _, _, rfl, _, _, rfl, _, _, rfl, rfl, ?_⟩
      refine ⟨sz, fun b nb => ?_⟩
      obtain ⟨G3, s3, S3, h3⟩ := Sep.mk (o := .tup [ow, .str wd]) S2 nb
      have how3 := (how.same s2).same s3
      refine ⟨W, b, o, [], _, rfl, rfl, S3.hd, (dd.same s3).same S3.1, (key_ow (K := K) lt how3 h3).same S3.1, false, rfl, ?_⟩
      refine ⟨(fun e => nomatch e), fun _ => ?_⟩
      refine ⟨sz, fun b2 nb2 => ?_⟩
      obtain ⟨G4, s4, S4, h4⟩ := Sep.mk (o := .tup [ow, .str wd]) S3 nb2
      refine ⟨G4, W, b2, o, [], _, rfl, rfl, S4.hd, S4.1, (dd.same s3).same s4, key_ow (K := K) lt (how3.same s4) h4, by decide, fun o' d' => ?_⟩
      exact ⟨G4, o', _, _, _, _, _, _, _, _, _, _, _, rfl, (s2.trans s3).trans s4, (fun h => nomatch h), fun _ => rfl, d', S4.set⟩
    obtain ⟨G2, ow2, kvs, y3, y4, y5, y6, y7, y8, y9, y10, y11, y12, rfl, s2, _, k1, dd, S2⟩ := h
    have k1 := k1 rfl
    subst k1
    refine ⟨sz, fun St nSt => ⟨sz, fun Go nGo => ?_⟩⟩
    have S3 := (S2.new (o := .lst []) nSt).new (o := .lst []) nGo
    -- what stays, what goes
    have hb2 := hb.same s2
    have ht2 := s2 _ _ ht
    have hz2 := same_l s2 hz
    have hsn2 := s2 _ _ hsn
    have how2 := how.same s2
    refine ⟨e, T.C_Effects, de, _, .ref l, rfl, Sep.here (A := [_, _, _]) S3, T.cl_Effects, T.na_Effects_held, rfl, l, rfl, ⟨_, SqL.of (Sep.here (A := [_, _, _, _]) S3)⟩, for_list (xs := es) (fun i σ H' => ∃ (G' : Hp) (ss gg : List V) (y3 y4 y5 y6 y9 y10 y11 y12 : Option V), σ = [some (.ref e), some (.ref z), some (.ref W), y3, y4, y5, y6, some (.ref St), some (.ref Go), y9, y10, y11, y12] ∧ Same G2 G' ∧ (Sm bd c → ss = es.take i ∧ gg = []) ∧ (¬ Sm bd c → ss = [] ∧ gg = es.take i) ∧
      Sep G' ((Go, .lst gg) :: (St, .lst ss) :: (W, ow2) :: (e, .ins T.C_Effects de [("held", .ref l)]) :: (l, .lst es) :: M) H') ⟨G2, [], [], _, _, _, _, _, _, _, _, rfl, Same.refl _, fun _ => ⟨rfl, rfl⟩, fun _ => ⟨rfl, rfl⟩, S3⟩ (fun i σ H' _ h => ?_) (fun i x σ H' hx h => ?_) (fun σ H4 h => ?_)⟩
    · obtain ⟨G4, ss, gg, _, _, _, _, _, _, _, _, _, _, _, _, S4⟩ := h
      exact SqL.of (Sep.here (A := [_, _, _, _]) S4)
    · obtain ⟨G4, ss, gg, y3, y4, y5, y6, y9, y10, y11, y12, rfl, s4, k1, k2, S4⟩ := h
      obtain ⟨d, rfl, ee, rfl, t0, ow0, sn0, rfl, ht0, how0, hsn0⟩ := bd_at hb2 hx
      have hT := SqT.of (K := K) (s4 _ _ ht0)
      refine ⟨_, _, .inr (S4.t hT), at0, _, .str wd, .inr (S4.t hT), rfl, sz, fun b nb => ?_⟩
      obtain ⟨G5, s5, S5, h5⟩ := Sep.mk (o := .tup [ow0, .str wd]) S4 nb
      have s45 := s4.trans s5
      have hW := Sep.here (A := [_, _]) S5
      have dd5 := (dd.same s45).same S5.1
      have kv5 := (key_ow (K := K) lt (how0.same s45) h5).same S5.1
      have g5 : valV (putK [] (nrm (kyD n wd)) (V.ref sn)) (nrm (kyD n wd)) = some (.ref sn) := get_one
      have T5 : (valV (putK [] (nrm (kyD n wd)) (V.ref sn)) (nrm (kyD n wd))).isSome = true := by rw [g5]; rfl
      have tk : es.take (0 + 1) = [.ref t0] := by rw [ee]; rfl
      refine ⟨W, b, ow2, _, _, rfl, rfl, hW, dd5, kv5, _, rfl, fun _ => ?_, fun e => by rw [T5] at e; cases e⟩
      refine ⟨W, b, ow2, _, _, _, rfl, rfl, hW, dd5, kv5, g5, _, .ref sn0, .inr (S5.t (same_t s5 hT)), rfl, itD c.2, itD d.2, dp_it (S5.st (s45 _ _ hsn2)), dp_it (S5.st (s45 _ _ hsn0)), lay_it _, lay_it _, dep_it _, ?_⟩
      rw [eqv_it]
      refine ⟨fun e => ?_, fun e => ?_⟩
      · have ec := of_decide_eq_true e
        have sm : Sm (some d) c := ⟨d, rfl, ec.symm⟩
        obtain ⟨k3, k4⟩ := k1 sm
        subst k3 k4
        refine ⟨.inl ⟨rfl, _, SqL.of (Sep.here (A := [_]) S5)⟩, St, _, _, rfl, rfl, Sep.here (A := [_]) S5, by rw [List.length_take]; exact smallL (by omega), ?_⟩
        exact ⟨G5, [.ref t0], [], _, _, _, _, _, _, _, _, rfl, s45, fun _ => ⟨tk.symm, rfl⟩, fun z => absurd sm z, Sep.setAt (A := [_]) S5⟩
      · have nc := of_decide_eq_false e
        have sm : ¬ Sm (some d) c := fun ⟨d', h1, h2⟩ => nc (by cases h1; exact h2.symm)
        obtain ⟨k3, k4⟩ := k2 sm
        subst k3 k4
        refine ⟨.inl ⟨rfl, _, SqL.of S5.hd⟩, Go, _, _, rfl, rfl, S5.hd, by rw [List.length_take]; exact smallL (by omega), ?_⟩
        exact ⟨G5, [], [.ref t0], _, _, _, _, _, _, _, _, rfl, s45, fun z => absurd z sm, fun _ => ⟨rfl, tk.symm⟩, S5.set⟩
    obtain ⟨G4, ss, gg, y3, y4, y5, y6, y9, y10, y11, y12, rfl, s4, k1, k2, S4⟩ := h
    rw [List.take_length] at k1 k2
    have hb4 := hb2.same s4
    have en : ∀ x ∈ es, ∃ d, EnA G4 n wd x d := fun x hx => by
      obtain ⟨i, hi, ex⟩ := List.mem_iff_getElem.mp hx
      obtain ⟨d, _, _, _, h⟩ := bd_at hb4 (List.getElem?_eq_some_iff.mpr ⟨hi, ex⟩)
      exact ⟨d, h⟩
    have hss : (∀ x ∈ ss, ∃ d, EnA G4 n wd x d) ∧ ss.length ≤ 1 ∧ (Sm bd c ↔ ss ≠ []) := by
      by_cases sm : Sm bd c
      · rw [(k1 sm).1]
        refine ⟨en, el, fun _ z => ?_, fun _ => sm⟩
        obtain ⟨d, rfl, _⟩ := sm
        obtain ⟨u, h1, _⟩ := hb4
        rw [h1] at z
        cases z
      · rw [(k2 sm).1]
        exact ⟨fun _ h => (nomatch h), Nat.zero_le _, fun z => absurd z sm, fun z => absurd rfl z⟩
    have hgg : (∀ x ∈ gg, ∃ d, EnA G4 n wd x d) ∧ gg.length ≤ 1 ∧ (Sm bd c → gg = []) := by
      by_cases sm : Sm bd c
      · rw [(k1 sm).2]
        exact ⟨fun _ h => (nomatch h), Nat.zero_le _, fun _ => rfl⟩
      · rw [(k2 sm).2]
        exact ⟨en, el, fun z => absurd z sm⟩
    have S5 := Sep.drop (Sep.pull (A := [_, _]) S4)
    refine ⟨Go, gg, rfl, SqL.of S5.hd, fun R nR => ?_⟩
    have S6 := (S5.new (o := .lst gg.reverse) nR).sw.drop
    refine ⟨R, rfl, ⟨_, SqL.of S6.hd⟩, fun Lg nLg => lc_list (xs := gg.reverse) (fun i H' => ∃ (G' : Hp) (us : List V), Same G4 G' ∧ us.length = i ∧ Sep G' ((Lg, .lst us) :: (R, .lst gg.reverse) :: (St, .lst ss) :: (e, .ins T.C_Effects de [("held", .ref l)]) :: (l, .lst es) :: M) H') ⟨G4, [], Same.refl _, rfl, S6.new nLg⟩ (fun i H' _ h => ?_) (fun i x H' hx h => ⟨rfl, ?_⟩) (fun H6 h => ?_)⟩
    · obtain ⟨G7, us, _, _, S7⟩ := h
      exact SqL.of S7.sw.hd
    · obtain ⟨G7, us, s7, ul, S7⟩ := h
      obtain ⟨d, t0, ow0, sn0, rfl, ht0, how0, hsn0⟩ := hgg.1 x (List.mem_reverse.mp (List.mem_of_getElem? hx))
      have il := (List.getElem?_eq_some_iff.mp hx).1
      rw [List.length_reverse] at il
      have hT := S7.t (SqT.of (K := K) (s7 _ _ ht0))
      refine ⟨_, _, .inr hT, at0, _, .str wd, .inr hT, rfl, _, .int d.1, .inr hT, rfl, sz, fun r nr => ?_⟩
      obtain ⟨G8, s8, S8, h8⟩ := Sep.mk (o := .tup [.str "clean", ow0, .str wd, .int d.1]) S7 nr
      exact ⟨us, S8.hd, smallL (by omega), G8, us ++ [.ref r], s7.trans s8, by rw [List.length_append, ul]; rfl, S8.set⟩
    obtain ⟨G7, lg, s7, ul, S7⟩ := h
    rw [List.length_reverse] at ul
    have S8 := S7.sw.drop
    refine ⟨St, rfl, ⟨_, SqL.of S8.sw.hd⟩, fun Kp o1 nKp d1 => loop_list (xs := ss) (fun i H' => ∃ (G' : Hp) (o : HO) (kvs : List (PyData × V)), Same G7 G' ∧ (i = 0 → kvs = []) ∧ (i ≠ 0 → kvs = putK [] (nrm (kyD n wd)) (.bl true)) ∧ DD K w G' Kp o kvs ∧ Sep G' ((Kp, o) :: (Lg, .lst lg) :: (St, .lst ss) :: (e, .ins T.C_Effects de [("held", .ref l)]) :: (l, .lst es) :: M) H') ⟨G7, o1, [], Same.refl _, fun _ => rfl, (fun h => absurd rfl h), d1 G7, S8.new nKp⟩ (fun i H' _ h => ?_) (fun i x H' hx h => ?_) (fun H8 h => ?_)⟩
    · obtain ⟨_, _, _, _, _, _, _, S'⟩ := h
      exact SqL.of (Sep.here (A := [_, _]) S')
    · obtain ⟨G9, o, kvs, s9, k0, _, dd9, S9⟩ := h
      have il := (List.getElem?_eq_some_iff.mp hx).1
      have hs1 := hss.2.1
      have i0 : i = 0 := by omega
      subst i0
      have k0 := k0 rfl
      subst k0
      obtain ⟨d, t0, ow0, sn0, rfl, ht0, how0, hsn0⟩ := hss.1 x (List.mem_of_getElem? hx)
      have hT := S9.t (SqT.of (K := K) (s9 _ _ (s7 _ _ ht0)))
      refine ⟨rfl, _, _, .inr hT, at0, _, .str wd, .inr hT, rfl, sz, fun b nb => ?_⟩
      obtain ⟨G10, s10, S10, h10⟩ := Sep.mk (o := .tup [ow0, .str wd]) S9 nb
      refine ⟨G10, b, o, [], nrm (kyD n wd), rfl, S10.hd, S10.1, dd9.same s10, key_ow lt (((how0.same s7).same s9).same s10) h10, by decide, fun o' d' => ⟨G10, o', _, s9.trans s10, (fun h => nomatch h), fun _ => rfl, d', S10.set⟩⟩
    obtain ⟨G9, o9, kvs, s9, m0, m1, dd9, S9⟩ := h
    have s29 := (s4.trans s7).trans s9
    refine ⟨z, rfl, ⟨_, S9.l (same_l s29 hz2)⟩, for_list (xs := [.ref t]) (fun i σ H' => ∃ (G' : Hp) (ss' lg' : List V) (y3 y4 y5 y6 y9 y10 : Option V), σ = [some (.ref e), some (.ref z), some (.ref W), y3, y4, y5, y6, some (.ref St), some (.ref Go), y9, y10, some (.ref Lg), some (.ref Kp)] ∧ Same G9 G' ∧ (i = 0 → ss' = ss ∧ lg' = lg) ∧ (i = 1 → (Sm bd c → ss' = ss ∧ lg' = lg) ∧ (¬ Sm bd c → ∃ u, ss' = [u] ∧ EnA G' n wd u c)) ∧
      Sep G' ((Kp, o9) :: (Lg, .lst lg') :: (St, .lst ss') :: (e, .ins T.C_Effects de [("held", .ref l)]) :: (l, .lst es) :: M) H') ⟨G9, ss, lg, _, _, _, _, _, _, rfl, Same.refl _, fun _ => ⟨rfl, rfl⟩, (fun h => nomatch h), S9⟩ (fun i σ H' _ h => ?_) (fun i x σ H' hx h => ?_) (fun σ H9 h => ?_)⟩
    · obtain ⟨G10, _, _, _, _, _, _, _, _, _, s10, _, _, S10⟩ := h
      exact S10.l (same_l (s29.trans s10) hz2)
    · obtain ⟨G10, ss', lg', y3, y4, y5, y6, y9, y10, rfl, s10, j0, _, S10⟩ := h
      obtain ⟨rfl, rfl⟩ := one_at hx
      obtain ⟨rfl, rfl⟩ := j0 rfl
      have s210 := s29.trans s10
      refine ⟨t, _, rfl, S10.t (SqT.of (s210 _ _ ht2)), rfl, _, _, rfl, _, _, rfl, _, _, rfl, _, _, rfl, rfl, ?_⟩
      refine ⟨sz, fun b nb => ?_⟩
      obtain ⟨G11, s11, S11, h11⟩ := Sep.mk (o := .tup [ow, .str wd]) S10 nb
      have s211 := s210.trans s11
      have kv := (key_ow (K := K) lt (how2.same s211) h11).same S11.1
      have dd11 := ((dd9.same s10).same s11).same S11.1
      by_cases sm : Sm bd c
      · have hne := hss.2.2.mp sm
        have kvs1 := m1 (fun z => hne (List.length_eq_zero_iff.mp z))
        subst kvs1
        have g5 : valV (putK [] (nrm (kyD n wd)) (V.bl true)) (nrm (kyD n wd)) = some (.bl true) := get_one
        have T5 : (!(valV (putK [] (nrm (kyD n wd)) (V.bl true)) (nrm (kyD n wd))).isSome) = false := by rw [g5]; rfl
        refine ⟨Kp, b, o9, _, _, rfl, rfl, S11.hd, dd11, kv, _, rfl, (fun e => by rw [T5] at e; cases e), fun _ => ?_⟩
        exact ⟨G11, _, _, _, _, _, _, _, _, rfl, s10.trans s11, (fun h => nomatch h), fun _ => ⟨fun _ => ⟨rfl, rfl⟩, fun z => absurd sm z⟩, S11⟩
      · have hse : ss' = [] := Classical.byContradiction fun z => sm (hss.2.2.mpr z)
        subst hse
        have kvs0 := m0 rfl
        subst kvs0
        refine ⟨Kp, b, o9, [], _, rfl, rfl, S11.hd, dd11, kv, true, rfl, fun _ => ?_, (fun e => nomatch e)⟩
        refine ⟨.inl ⟨rfl, _, SqL.of (Sep.here (A := [_, _]) S11)⟩, sz, fun r nr => ?_⟩
        obtain ⟨G12, s12, S12, h12⟩ := Sep.mk (o := .tup [ow, .str wd, .int c.1, .ref sn]) S11 nr
        refine ⟨St, _, _, rfl, rfl, Sep.here (A := [_, _]) S12, by decide, ?_⟩
        have S13 := Sep.setAt (A := [_, _]) (o' := .lst ([] ++ [.ref r])) S12
        have gl := hgg.2.1
        refine ⟨.inl ⟨rfl, _, SqL.of S13.sw.hd⟩, sz, fun r2 nr2 => ?_⟩
        obtain ⟨G14, s14, S14, h14⟩ := Sep.mk (o := .tup [.str "arm", ow, .str wd, .int c.1]) S13 nr2
        refine ⟨Lg, _, _, rfl, rfl, S14.sw.hd, smallL (by omega), ?_⟩
        have s214 := (s211.trans s12).trans s14
        exact ⟨G14, _, _, _, _, _, _, _, _, rfl, ((s10.trans s11).trans s12).trans s14, (fun h => nomatch h), fun _ => ⟨fun z => absurd z sm, fun _ => ⟨.ref r, rfl, r, ow, sn, rfl, s14 _ _ h12, how2.same s214, s214 _ _ hsn2⟩⟩, Sep.setAt (A := [_]) S14⟩
    obtain ⟨G10, ss', lg', y3, y4, y5, y6, y9, y10, rfl, s10, _, j1, S10⟩ := h
    obtain ⟨j1, j2⟩ := j1 rfl
    have S11 := S10.drop
    refine ⟨e, T.C_Effects, de, _, rfl, Sep.here (A := [_, _]) S11, T.cl_Effects, T.na_Effects_held, (show 1 < 1000 by decide), ?_⟩
    have S12 := Sep.setAt (A := [_, _]) (o' := .ins T.C_Effects de [("held", .ref St)]) S11
    have S13 := Sep.drop (Sep.pull (A := [_, _, _]) S12)
    have S14 := S13.perm (List.Perm.cons _ (List.Perm.swap _ _ _))
    refine q Lg St lg' ss' G10 _ (s2.trans (s29.trans s10)) S14 ?_ ?_
    · by_cases sm : Sm bd c
      · rw [(j1 sm).1, (k1 sm).1]
        obtain ⟨d, rfl, hd⟩ := sm
        rw [show bdN (some d) c = d from if_pos hd]
        exact hb4.same ((s7.trans s9).trans s10)
      · have eb : bdN bd c = c := by
          match bd, sm with
          | none, _ => rfl
          | some d, sm => exact if_neg fun h => sm ⟨d, rfl, h⟩
        rw [eb]
        exact j2 sm
    · rintro ⟨v, rfl⟩
      have sm : Sm (some (v, c.2)) c := ⟨_, rfl, rfl⟩
      rw [(j1 sm).2]
      rw [hgg.2.2 sm] at ul
      exact List.length_eq_zero_iff.mp ul

end
end K43
set_option Elab.async false
set_option linter.all false
set_option maxRecDepth 100000
set_option maxHeartbeats 4000000
namespace K43
open PySem PySem.Spec PyProof.Rows L2 XL
section
variable {P : Program} {w : World} {K : PySem.W.Frag} {mg : Str → Option Value} {base : Heap}
/-! ### the law's settings -/
def SA (rs : Rg) (G : Hp) (u : V) (i : Nat) : Prop := ∃ d, u = .ref d ∧ G d = some (.dK (dk (rgN rs) (stg rs i)))
theorem SA.same {rs : Rg} {G G' : Hp} (e : Same G G') {u : V} {i : Nat} (h : SA rs G u i) : SA rs G' u i := let ⟨d, h1, h2⟩ := h; ⟨d, h1, e _ _ h2⟩
def spSettings (K : PySem.W.Frag) : Sp := fun vs H Q _ => ∃ (G : Hp) (M : List (Addr × HO)) (L : Addr) (us : List V) (rs : Rg), vs = [.ref L] ∧ Sep G M H ∧ SqL K G L us ∧ RgsAt K G us rs ∧ RgOk rs ∧ rs.length ≤ 60 ∧ cnt rs ≤ 256 ∧
  ∀ (D : Addr) (ws : List V) (G' H' : Hp), Same G G' → SqL K G' D ws → Paired (SA rs G') ws (List.range (cnt rs)) → Sep G' M H' → Q (.ref D) H'
theorem ok_law_settings (T : Top K mg w) {k : Nat} : FnOk P w K mg base CX0 (k + 1) T.a_law_settings T.d_law_settings ["_law_ranges_here"] (spSettings K) := by
  refine T.F_law_settings.ok sc_law_settings (fun vs H Q E h => ?_) (fun cdv A outer s H vs Q E hr h => ?_)
  · obtain ⟨G, M, L, us, rs, rfl, _⟩ := h
    rfl
  · obtain ⟨G, M, L, us, rs, rfl, S, hL, hr0, ro, ul4, c6, q⟩ := h
    refine ⟨_, (pss_cons (ps_set (i := 1) sc_law_settings.nd rfl (.inl rfl) (pe_lst (pa_cons pe_dnewK pa_nil)))
      (pss_cons (ps_for PassesOwn.never rfl (pi_listK K (xv 0)) (pg_tupK K 2 (pgs_cons (pg_name (i := 2) sc_law_settings.nd rfl (.inl rfl)) (pgs_cons (pg_name (i := 3) sc_law_settings.nd rfl (.inl rfl)) pgs_nil)))
      (pss_cons (ps_set (i := 4) sc_law_settings.nd rfl (.inl rfl) (pe_lst pa_nil))
      (pss_cons (ps_for PassesOwn.never rfl (pi_listK K (xv 1)) (pg_name (i := 5) sc_law_settings.nd rfl (.inl rfl))
      (pss_one (ps_for PassesOwn.never rfl (pi_range1 (by rfl) T.m_range (pa_cons (xv 3) pa_nil)) (pg_name (i := 6) sc_law_settings.nd rfl (.inl rfl))
      (pss_cons (ps_set (i := 7) sc_law_settings.nd rfl (.inl rfl) (pe_callTy call_dictD (by rfl) T.m_dict (by decide +kernel) (pa_cons (xv 5) pa_nil)))
      (pss_cons (ps_dput (hu_of hr) (xv 7) (xv 2) (xv 6) rfl)
      (pss_one (ps_expr (pe_bmK K PySem.F.plainAttrs_list PySem.F.slot_list_append PySem.F.type_list_append mt_append (xv 4) (pa_cons (xv 7) pa_nil)))))))))
      (pss_one (ps_set (i := 1) sc_law_settings.nd rfl (.inl rfl) (pe_callTy (call_listK K) (by rfl) T.m_list (by decide +kernel) (pa_cons (xv 4) pa_nil)))))))
      (pss_one (ps_ret (xv 1))))), ?_⟩
    refine fun D0 nD0 => ⟨sz, fun R nR => ?_⟩
    obtain ⟨G0, s0, S0, h0⟩ := Sep.mk (o := .dK []) S nD0
    have S1 := S0.new (o := .lst [.ref D0]) nR
    have ul := prd_len hr0
    refine ⟨L, rfl, ⟨_, S1.l (same_l s0 hL)⟩, for_list (xs := us) (fun j σ H' => ∃ (R : Addr) (G' : Hp) (ws : List V) (y2 y3 y4 y5 y6 y7 : Option V), σ = [some (.ref L), some (.ref R), y2, y3, y4, y5, y6, y7] ∧ Same G G' ∧ Paired (SA (rs.take j) G') ws (List.range (cnt (rs.take j))) ∧ Sep G' ((R, .lst ws) :: M) H') ⟨R, G0, [.ref D0], _, _, _, _, _, _, rfl, s0, .cons ⟨D0, rfl, h0⟩ .nil, S1⟩ (fun j σ H' _ h => ?_) (fun j x σ H' hx h => ?_) (fun σ H' h => ?_)⟩
    · obtain ⟨_, G2, _, _, _, _, _, _, _, _, s2, _, S2⟩ := h
      exact S2.l (same_l s2 hL)
    · obtain ⟨R, G2, ws, y2, y3, y4, y5, y6, y7, rfl, s2, hws, S2⟩ := h
      obtain ⟨p, hp, a, rfl, ha⟩ := prd_get hr0 hx
      have sz4 := ro.sz p (List.mem_of_getElem? hp)
      have wl := prd_len hws
      rw [List.length_range] at wl
      have ht1 : rs.take (j + 1) = rs.take j ++ [(p.1, p.2)] := take_snoc hp
      have ec : cnt (rs.take (j + 1)) = cnt (rs.take j) * p.2 := by rw [ht1, cnt_snoc]
      have c7 : cnt (rs.take j) * p.2 ≤ 256 := by
        have e1 : cnt rs = cnt (rs.take (j + 1)) * cnt (rs.drop (j + 1)) := by rw [← cnt_app, List.take_append_drop]
        have e2 := cnt_pos (RgOk.right (p := rs.take (j + 1)) (q := rs.drop (j + 1)) (by rw [List.take_append_drop]; exact ro))
        have e3 := Nat.le_mul_of_pos_right (cnt (rs.take (j + 1))) e2
        omega
      refine ⟨a, _, rfl, S2.t (same_t s2 ha), rfl, _, _, rfl, _, _, rfl, rfl, sz, fun Lo nLo => ?_⟩
      have S3 := S2.new (o := .lst []) nLo
      refine ⟨R, rfl, ⟨_, SqL.of S3.sw.hd⟩, for_list (xs := ws) (fun i σ H' => ∃ (G' : Hp) (qs : List V) (y5 y6 y7 : Option V), σ = [some (.ref L), some (.ref R), some (.str p.1), some (.int (p.2 : Nat)), some (.ref Lo), y5, y6, y7] ∧ Same G2 G' ∧ Paired (SA (rs.take (j + 1)) G') qs (List.range (i * p.2)) ∧ Sep G' ((Lo, .lst qs) :: (R, .lst ws) :: M) H') ⟨G2, [], _, _, _, rfl, Same.refl _, by rw [Nat.zero_mul]; exact .nil, S3⟩ (fun i σ H' _ h => ?_) (fun i x σ H' hx2 h => ?_) (fun σ H' h => ?_)⟩
      · obtain ⟨_, _, _, _, _, _, _, _, S4⟩ := h
        exact SqL.of S4.sw.hd
      · obtain ⟨G4, qs, y5, y6, y7, rfl, s4, hqs, S4⟩ := h
        obtain ⟨i', hi', d, rfl, hd⟩ := prd_get hws hx2
        have il := (List.getElem?_eq_some_iff.mp hx2).1
        rw [List.getElem?_range (by omega)] at hi'
        cases hi'
        refine ⟨_, rfl, by omega, by omega, for_range (lo := 0) (n := ((p.2 : Nat) : Int).toNat) (fun t σ H' => ∃ (G' : Hp) (qs : List V) (y6 y7 : Option V), σ = [some (.ref L), some (.ref R), some (.str p.1), some (.int (p.2 : Nat)), some (.ref Lo), some (.ref d), y6, y7] ∧ Same G2 G' ∧ Paired (SA (rs.take (j + 1)) G') qs (List.range (i * p.2 + t)) ∧ Sep G' ((Lo, .lst qs) :: (R, .lst ws) :: M) H') ⟨G4, qs, _, _, rfl, s4, hqs, S4⟩ (fun t σ H' ht h => ?_) (fun σ H' h => ?_)⟩
        · obtain ⟨G5, qs, y6, y7, rfl, s5, hqs, S5⟩ := h
          rw [Int.toNat_natCast] at ht
          have e0 : (0 : Int) + (t : Nat) = (t : Nat) := Int.zero_add _
          rw [e0]
          have hl2 : i * p.2 + t < 256 := by
            have : (i + 1) * p.2 ≤ cnt (rs.take j) * p.2 := Nat.mul_le_mul_right _ (by omega)
            rw [Nat.add_mul, Nat.one_mul] at this
            omega
          have ql := prd_len hqs
          rw [List.length_range] at ql
          refine ⟨d, _, rfl, .inl (S5.st (s5 _ _ hd)), fun m nm => ?_⟩
          have S6 := S5.new (o := .dK (dk (rgN (rs.take j)) (stg (rs.take j) i))) nm
          have jl := (List.getElem?_eq_some_iff.mp hp).1
          have hn : (rgN rs)[j]? = some p.1 := by
            rw [show rgN rs = rs.map (·.1) from rfl, List.getElem?_map, hp]
            rfl
          have mt : ∀ j, rgN (rs.take j) = (rgN rs).take j := fun j => List.map_take ..
          have rok : RgOk (rs.take (j + 1)) := RgOk.left (q := rs.drop (j + 1)) (by rw [List.take_append_drop]; exact ro)
          have hxn : p.1 ∉ rgN (rs.take j) := fun hin => by
            have nd := rok.nd
            rw [ht1, show rgN (rs.take j ++ [(p.1, p.2)]) = rgN (rs.take j) ++ [p.1] from List.map_append .., List.nodup_append] at nd
            exact nd.2.2 _ hin _ List.mem_cons_self rfl
          have ev : ∀ y, stg (rs.take (j + 1)) (i * p.2 + t) y = if y = p.1 then ((t : Nat) : Int) else stg (rs.take j) i y := fun y => by
            rw [ht1]
            exact stg_snoc sz4.1 ht (RgOk.left (q := [(p.1, p.2)]) (ht1 ▸ rok)) hxn
          have ep : putK (dk (rgN (rs.take j)) (stg (rs.take j) i)) (Sum.inr p.1) (.int (t : Nat)) = dk (rgN (rs.take (j + 1))) (stg (rs.take (j + 1)) (i * p.2 + t)) := by
            rw [dk_congr (e' := stg (rs.take (j + 1)) (i * p.2 + t)) (fun y hy => by
              have ne : ¬ y = p.1 := fun e => hxn (by rw [← e]; exact hy)
              rw [ev, if_neg ne]), mt j, mt (j + 1)]
            have z := dk_put (e := stg (rs.take (j + 1)) (i * p.2 + t)) ro.nd hn
            rw [ev, if_pos rfl] at z
            exact z
          refine ⟨m, _, rfl, DPut.k (k := Sum.inr p.1) S6.hd (by rw [dk_len, mt, List.length_take]; exact smallL (by have := ul4; omega)), ?_⟩
          rw [ep]
          have S7 := S6.set (o' := .dK (dk (rgN (rs.take (j + 1))) (stg (rs.take (j + 1)) (i * p.2 + t))))
          refine ⟨.inl ⟨rfl, _, SqL.of S7.sw.hd⟩, Lo, _, _, rfl, rfl, S7.sw.hd, smallL (by omega), ?_⟩
          have S8 := S7.sw.set (o' := .lst (qs ++ [.ref m]))
          obtain ⟨G9, s9, S9, h9⟩ := Sep.keep S8.sw
          refine ⟨G9, qs ++ [.ref m], _, _, rfl, s5.trans s9, ?_, S9⟩
          rw [← Nat.add_assoc, List.range_succ]
          exact (prd_imp (fun _ _ => SA.same s9) hqs).snoc ⟨m, rfl, h9⟩
        · obtain ⟨G5, qs, y6, y7, rfl, s5, hqs, S5⟩ := h
          rw [Int.toNat_natCast, show i * p.2 + p.2 = (i + 1) * p.2 by rw [Nat.add_mul, Nat.one_mul]] at hqs
          exact ⟨G5, qs, _, _, _, rfl, s5, hqs, S5⟩
      · obtain ⟨G4, qs, y5, y6, y7, rfl, s4, hqs, S4⟩ := h
        rw [wl, ← ec] at hqs
        refine ⟨Lo, qs, rfl, .inl (SqL.of S4.hd), fun R2 nR2 => ?_⟩
        have S5 := S4.drop.drop.new (o := .lst qs) nR2
        exact ⟨R2, G4, qs, _, _, _, _, _, _, rfl, s2.trans s4, hqs, S5⟩
    · obtain ⟨R, G2, ws, y2, y3, y4, y5, y6, y7, rfl, s2, hws, S2⟩ := h
      rw [ul, List.take_length] at hws
      exact q R ws _ H' (s2.trans S2.frzS) (SqL.of upd_same) (prd_imp (fun _ _ => SA.same S2.frzS) hws) S2.frz
def spSame (K : PySem.W.Frag) : Sp := fun vs H Q _ => ∃ (G : Hp) (M : List (Addr × HO)) (a b : Addr) (us : List V) (d : PyData), vs = [.ref a, .ref b] ∧ Sep G M H ∧ Dp K G (.ref a) d ∧ Dp K G (.ref b) d ∧ d.canLay0 = true ∧ d.depth ≤ 190 ∧ PyData.eqv d d = true ∧
  G a = some (.lst us) ∧ (∀ u ∈ us, ∃ t xs, u = V.ref t ∧ G t = some (.tup xs) ∧ ∀ x ∈ xs, (∃ r, x = .ref r ∧ ∃ ys, SqT K G r ys) ∨ (∃ i, x = .int i) ∨ ∃ z, x = .str z) ∧ ∀ G' H', Same G G' → Sep G' M H' → Q (.bl true) H'
theorem ok_law_same (T : Top K mg w) {k : Nat} : FnOk P w K mg base CX0 (k + 1) T.a_same T.d_same ["_law_told", "_law_due"] (spSame K) := by
  refine T.F_same.ok sc_same (fun vs H Q E h => ?_) (fun cdv A outer s H vs Q E hr h => ?_)
  · obtain ⟨G, M, a, b, us, d, rfl, _⟩ := h
    rfl
  · obtain ⟨G, M, a, b, us, d, rfl, S, da, db, ly, dp, ev, ha, hus, q⟩ := h
    refine ⟨_, (pss_cons (xs_if (PW.pt (xw_or (pt_not (xt_truK K (pe_callB (call_isK K) (by rfl) T.m_isinstance (by decide +kernel) (pa_cons (xv 0) (pa_cons (pe_bltn (v := .ty "list") (by rfl) T.m_list (by decide +kernel) rfl) pa_nil))))) (pw_or1 (xt_cmp (op_neLK K hr.u190) (xv 0) (xv 1) (nomark _)))))
      (pss_one (ps_ret pe_bl))
      pss_nil)
      (pss_cons (ps_for PassesOwn.never rfl (pi_listK K (xv 0)) (pg_name (i := 2) sc_same.nd rfl (.inl rfl))
      (pss_one (xs_if (xt_cmp (op_neLK K hr.u190) (pe_lc (own := [("_law_part", 3)]) (by rfl) sc_same.nd (pi_tupK K (xv 2)) (blkOk_by (N := ["_law_told", "_law_due", "_law_row", "_law_part"]) (sc := defScope s_same) (by decide +kernel)) (fun _ _ _ _ _ => (pg_name (i := 3) sc_same.nd rfl (.inl rfl))) (fun _ _ _ _ _ => (pts_one (xt_truK K (pe_callB (call_isK K) (by rfl) T.m_isinstance (by decide +kernel) (pa_cons (xv 3) (pa_cons (pe_bltn (v := .ty "bool") (by rfl) T.m_bool (by decide +kernel) rfl) pa_nil)))))) (fun _ _ _ _ _ => (xv 3))) (pe_lst pa_nil) (nomark _))
      (pss_one (ps_ret pe_bl))
      pss_nil)))
      (pss_one (ps_ret pe_bl)))), ?_⟩
    have ha' := S.st ha
    refine ⟨_, _, _, _, true, rfl, .ty _, .base (.lst ha'), kit_ty (by decide +kernel), ff, fun _ => ?_⟩
    refine ⟨d, d, dp_same S.1 da, dp_same S.1 db, ly, ly, dp, ?_⟩
    rw [ev]
    refine ⟨(fun e => nomatch e), fun _ => ?_⟩
    refine ⟨a, rfl, ⟨_, SqL.of ha'⟩, for_list (xs := us) (fun i σ H' => ∃ (y2 y3 : Option V) (G' : Hp), σ = [some (.ref a), some (.ref b), y2, y3] ∧ Same G G' ∧ Sep G' M H') ⟨_, _, G, rfl, Same.refl _, S⟩ (fun i σ H' _ h => ?_) (fun i x σ H' hx h => ?_) (fun σ H' h => ?_)⟩
    · obtain ⟨_, _, G2, _, s2, S2⟩ := h
      exact S2.l (same_l s2 (SqL.of ha))
    · obtain ⟨y2, y3, G2, rfl, s2, S2⟩ := h
      obtain ⟨t, xs, rfl, ht, hxs⟩ := hus x (List.mem_of_getElem? hx)
      have hT := SqT.of (K := K) (s2 _ _ ht)
      refine ⟨t, rfl, ⟨_, S2.t hT⟩, fun D nD => lc_tup (xs := xs) (fun i H' => Sep G2 ((D, .lst []) :: M) H') (S2.new nD) (fun i H' _ S' => S'.t hT) (fun i y H' hy S' => ⟨rfl, ?_⟩) (fun H' S' => ?_)⟩
      · rcases hxs y (List.mem_of_getElem? hy) with ⟨r, rfl, ys, hr⟩ | ⟨i, rfl⟩ | ⟨z, rfl⟩
        · exact ⟨_, _, _, _, false, rfl, .ty _, sqT_ty (S'.t (same_t s2 hr)), kit_ty (by decide +kernel), S'⟩
        · exact ⟨_, _, _, _, false, rfl, .ty _, .base (.int _), kit_ty (by decide +kernel), S'⟩
        · exact ⟨_, _, _, _, false, rfl, .ty _, .base (.str _), kit_ty (by decide +kernel), S'⟩
      · refine ⟨sz, fun e ne => ?_⟩
        have S3 := S'.new (o := .lst []) ne
        refine ⟨.list [], .list [], .lst (SqL.of S3.sw.hd) .nil, .lst (SqL.of S3.hd) .nil, rfl, rfl, by decide, ?_⟩
        rw [show PyData.eqv (.list []) (.list []) = true by simp [PyData.eqv, PyData.eqvAll]]
        refine ⟨(fun e => nomatch e), fun _ => ?_⟩
        exact ⟨_, _, G2, rfl, s2, S3.drop.drop⟩
    · obtain ⟨_, _, G2, rfl, s2, S2⟩ := h
      exact q G2 H' s2 S2
def PairV (G : Hp) : Option (Nat × Nat) → V → Prop
  | none, v => v = .non
  | some (a, b), v => ∃ t, v = .ref t ∧ G t = some (.tup [.int (a : Nat), .int (b : Nat)])
def KyA (rs : Rg) (ls : List Str) (G : Hp) (u : V) (i : Nat) : Prop := ∃ t, u = .ref t ∧ G t = some (.tup ((kys rs ls i).map V.int))
def spFirst (K : PySem.W.Frag) : Sp := fun vs H Q _ => ∃ (G : Hp) (M : List (Addr × HO)) (D A B : Addr) (ws vs' ks : List V) (rs : Rg) (ls : List Str) (val : Nat → Int), vs = [.ref D, .ref A, .ref B] ∧ Sep G M H ∧ SqL K G D ws ∧ SqL K G A ((List.range (cnt rs)).map fun i => V.int (val i)) ∧ SqL K G B ks ∧ ws.length = cnt rs ∧ cnt rs ≤ 256 ∧ Paired (KyA rs ls G) ks (List.range (cnt rs)) ∧
  ∀ (r : Option (Nat × Nat)) (u : V) (G' H' : Hp), FirstPr (cnt rs) (Bd rs ls val) r → Same G G' → Sep G' M H' → PairV G' r u → Q u H'
theorem ok_law_first_pair (T : Top K mg w) {k : Nat} : FnOk P w K mg base CX0 (k + 5) T.a_first_pair T.d_first_pair ["_law_rows", "_law_values", "_law_keys"] (spFirst K) := by
  refine T.F_first_pair.ok sc_first_pair (fun vs H Q E h => ?_) (fun cdv A outer s H vs Q E hr h => ?_)
  · obtain ⟨G, M, D, A, B, ws, vs', ks, rs, ls, val, rfl, _⟩ := h
    rfl
  · obtain ⟨G, M, D, A, B, ws, vs', ks, rs, ls, val, rfl, S, hD, hA, hB, wl, c6, hk, q⟩ := h
    refine ⟨_, (pss_cons (ps_for PassesOwn.never rfl (pi_range1 (by rfl) T.m_range (pa_cons (pe_callB (cr_lenK K) (by rfl) T.m_len (by decide +kernel) (pa_cons (xv 0) pa_nil)) pa_nil)) (pg_name (i := 3) sc_first_pair.nd rfl (.inl rfl))
      (pss_one (ps_for PassesOwn.never rfl (pi_range2 (by rfl) T.m_range (pa_cons (pe_op op_addY (xv 3) pe_int) (pa_cons (pe_callB (cr_lenK K) (by rfl) T.m_len (by decide +kernel) (pa_cons (xv 0) pa_nil)) pa_nil))) (pg_name (i := 4) sc_first_pair.nd rfl (.inl rfl))
      (pss_one (xs_if (PW.pt (xw_and (xt_cmp (op_eqLK K hr.u190) (pe_ix (ix_k K) (xv 2) (xv 3) (fun _ _ => rfl)) (pe_ix (ix_k K) (xv 2) (xv 4) (fun _ _ => rfl)) (nomark _)) (pw_and1 (xt_cmp (op_neLK K hr.u190) (pe_ix (ix_k K) (xv 1) (xv 3) (fun _ _ => rfl)) (pe_ix (ix_k K) (xv 1) (xv 4) (fun _ _ => rfl)) (nomark _)))))
      (pss_one (ps_ret (pe_tup (pa_cons (xv 3) (pa_cons (xv 4) pa_nil)))))
      pss_nil)))))
      (pss_one (ps_ret pe_non))), ?_⟩
    have hn : ∀ {i : Nat}, i < cnt rs → ∃ t, atI ks (i : Nat) = some (.ref t) ∧ G t = some (.tup ((kys rs ls i).map V.int)) := fun {i} hi => by
      have hl := prd_len hk
      rw [List.length_range] at hl
      have hx : ks[i]? = some ks[i] := List.getElem?_eq_getElem (by omega)
      obtain ⟨j, hj, t, h1, h2⟩ := prd_get hk hx
      rw [List.getElem?_range hi] at hj
      cases hj
      rw [h1] at hx
      exact ⟨t, atI_nat hx, h2⟩
    have hv : ∀ {i : Nat}, i < cnt rs → atI ((List.range (cnt rs)).map fun i => V.int (val i)) (i : Nat) = some (.int (val i)) := fun {i} hi => atI_nat (by
      rw [List.getElem?_map, List.getElem?_range hi]
      rfl)
    have hD' := S.l hD
    have hA' := S.l hA
    have hB' := S.l hB
    refine ⟨_, .inl hD', _, rfl, by omega, by omega, for_range (lo := 0) (n := ((ws.length : Nat) : Int).toNat) (fun x σ H'' => ∃ (y3 y4 : Option V), σ = [some (.ref D), some (.ref A), some (.ref B), y3, y4] ∧ H'' = H ∧ ∀ a' b', a' < x → a' < b' → b' < cnt rs → ¬ Bd rs ls val a' b') ⟨_, _, rfl, rfl, fun a' b' z => by omega⟩ (fun x σ H'' hx h => ?_) (fun σ H'' h => ?_)⟩
    · obtain ⟨y3, y4, rfl, rfl, hbd⟩ := h
      rw [Int.toNat_natCast, wl] at hx
      have e0 : (0 : Int) + (x : Nat) = (x : Nat) := Int.zero_add _
      rw [e0]
      refine ⟨_, .inl hD', _, _, rfl, ⟨by omega, by omega, by omega, by omega⟩, for_range (lo := (x : Int) + 1) (n := ((ws.length : Int) - ((x : Int) + 1)).toNat) (fun t σ H4 => ∃ (y4 : Option V), σ = [some (.ref D), some (.ref A), some (.ref B), some (.int (x : Nat)), y4] ∧ H4 = H'' ∧
        ∀ b', x < b' → b' < x + 1 + t → ¬ Bd rs ls val x b') ⟨_, rfl, rfl, fun b' z1 z2 => by omega⟩ (fun t σ H4 ht h => ?_) (fun σ H4 h => ?_)⟩
      · obtain ⟨y4, rfl, rfl, hb2⟩ := h
        have hb : x + 1 + t < cnt rs := by omega
        have e1 : (x : Int) + 1 + (t : Nat) = ((x + 1 + t : Nat) : Int) := by omega
        rw [e1]
        obtain ⟨t1, h1, h2⟩ := hn hx
        obtain ⟨t2, k1, k2⟩ := hn hb
        refine ⟨ks, _, .inl hB', h1, ks, _, .inl hB', k1, itD (kys rs ls x), itD (kys rs ls (x + 1 + t)), dp_it (S.st h2), dp_it (S.st k2), lay_it _, lay_it _, dep_it _, ?_⟩
        rw [eqv_it]
        have nb : ¬ Bd rs ls val x (x + 1 + t) → ∀ b', x < b' → b' < x + 1 + (t + 1) → ¬ Bd rs ls val x b' := fun hnb b' z1 z2 => by
          by_cases hbx : b' = x + 1 + t
          · rw [hbx]
            exact hnb
          · exact hb2 b' z1 (by omega)
        refine ⟨fun e => ?_, fun e => ?_⟩
        · have ek := of_decide_eq_true e
          refine ⟨_, _, .inl hA', hv hx, _, _, .inl hA', hv hb, fun e => ?_, fun e => ?_⟩
          · have en : ¬ val x = val (x + 1 + t) := by simpa using e
            refine ⟨sz, fun tt ntt => ?_⟩
            have S5 := S.newG (o := .tup [.int (x : Nat), .int (x + 1 + t : Nat)]) ntt
            exact q (some (x, x + 1 + t)) _ _ _ ⟨by omega, hb, ⟨ek, en⟩, fun a' b' z1 z2 z3 => by
              rcases z3 with z3 | ⟨rfl, z3⟩
              · exact hbd a' b' z3 z1 z2
              · exact hb2 b' z1 z3⟩ (S.grow ntt) S5 ⟨tt, rfl, upd_same⟩
          · have en : val x = val (x + 1 + t) := by simpa using e
            exact ⟨_, rfl, rfl, nb fun z => z.2 en⟩
        · exact ⟨(fun e => nomatch e), fun _ => ⟨_, rfl, rfl, nb fun z => of_decide_eq_false e z.1⟩⟩
      · obtain ⟨y4, rfl, rfl, hb2⟩ := h
        refine ⟨_, _, rfl, rfl, fun a' b' z1 z2 z3 => ?_⟩
        by_cases hax : a' = x
        · subst hax
          exact hb2 b' z2 (by omega)
        · exact hbd a' b' (by omega) z2 z3
    · obtain ⟨y3, y4, rfl, rfl, hbd⟩ := h
      rw [Int.toNat_natCast, wl] at hbd
      exact q none .non G _ (fun a' b' z1 z2 => hbd a' b' (by omega) z1 z2) (Same.refl _) S rfl

end
end K43
set_option Elab.async false
set_option linter.all false
set_option maxRecDepth 100000
set_option maxHeartbeats 4000000
namespace K43
open PySem PySem.Spec PyProof.Rows L2 XL
section
variable {P : Program} {w : World} {K : PySem.W.Frag} {mg : Str → Option Value} {base : Heap}
theorem cutV_from (xs : List V) (k : Nat) (h : k ≤ xs.length) : cutV xs (some (k : Int)) none = xs.drop k := by
  unfold cutV
  rw [HT.sIx_nat, HT.sIx_none, Nat.min_eq_left h]
  exact List.take_of_length_le (by rw [List.length_drop]; exact Nat.le_refl _)

theorem dp_strsT {K : PySem.W.Frag} {G : Hp} : ∀ ns : List Str, DpAll K G (ns.map V.str) (ns.map PyData.str)
  | [] => .nil
  | n :: ns => .cons (.str n) (dp_strsT ns)
def lsD (ns : List Str) : PyData := .list (ns.map PyData.str)
theorem dp_ls {K : PySem.W.Frag} {H : Hp} {a : Addr} {ns : List Str} (h : SqL K H a (ns.map V.str)) : Dp K H (.ref a) (lsD ns) := .lst h (dp_strsT ns)
theorem lay_ls {ns : List Str} (h : ∀ z ∈ ns, Lt 1 8 z) : (lsD ns).canLay0 = true ∧ (lsD ns).depth ≤ 190 := by
  refine ⟨?_, ?_⟩
  · simp only [lsD, PyData.canLay0]
    exact layAll fun d hd => by
      obtain ⟨z, hz, rfl⟩ := List.mem_map.mp hd
      exact (Fit.name (h z hz)).cl
  · have h : PyData.depthAll (ns.map PyData.str) ≤ 2 := depthAll_le fun d hd => by
      obtain ⟨n, _, rfl⟩ := List.mem_map.mp hd
      simp only [PyData.depth]
      omega
    simp only [lsD, PyData.depth]
    omega
theorem eqv_nil (ns : List Str) : PyData.eqv (lsD ns) (.list []) = ns.isEmpty := by
  cases ns <;> simp [lsD, PyData.eqv, PyData.eqvAll]
def isS : V → Str
  | .str z => z
  | _ => ""
theorem perm_strs {ys : List V} {zs : List Str} (h : ys.Perm (zs.map V.str)) : ∃ zs' : List Str, ys = zs'.map V.str ∧ zs'.Perm zs := by
  refine ⟨ys.map isS, ?_, ?_⟩
  · rw [List.map_map]
    conv => lhs; rw [← List.map_id ys]
    refine List.map_congr_left fun y hy => ?_
    obtain ⟨z, _, rfl⟩ := List.mem_map.mp (h.mem_iff.mp hy)
    rfl
  · have := h.map isS
    rw [List.map_map] at this
    have e : zs.map (isS ∘ V.str) = zs := by
      conv => rhs; rw [← List.map_id zs]
      rfl
    rw [e] at this
    exact this
theorem gm_ok {a b : List Str} (h : ∀ x ∈ a, x ∈ b) : ∀ {f : Gm}, f.ok a → f.ok b
  | .is _, k => k
  | .get _, k => h _ k
  | .sum _ _, k => ⟨gm_ok h k.1, gm_ok h k.2⟩
  | .same _ _, k => ⟨gm_ok h k.1, gm_ok h k.2⟩
  | .pick _ _ _, k => ⟨gm_ok h k.1, gm_ok h k.2.1, gm_ok h k.2.2⟩
/-! ### drawn ranges -/
def spRanges (K : PySem.W.Frag) : Sp := fun vs H Q _ => ∃ (G : Hp) (M : List (Addr × HO)) (b : Addr) (o : HO), vs = [.ref b] ∧ Sep G ((b, o) :: M) H ∧ Bag G o ∧
  ∀ (L : Addr) (us : List V) (rs : Rg) (o' : HO) (G' H' : Hp), Same G G' → SqL K G' L us → RgsAt K G' us rs → RgOk rs → rs ≠ [] → rs.length ≤ 4 → cnt rs ≤ 256 → (∀ z ∈ rgN rs, Lt 1 8 z) → Bag G' o' → Sep G' ((b, o') :: M) H' → Q (.ref L) H'
theorem ok_ranges (T : Top K mg w) {k : Nat} (G_pick : FnOk P w K mg base CX0 k T.a_pick T.d_pick ["_law_bag_here", "_law_many"] spPick) (G_new_name : FnOk P w K mg base CX0 k T.a_new_name T.d_new_name ["_law_bag_here", "_law_used"] spNew) : FnOk P w K mg base CX0 (k + 1) T.a_ranges T.d_ranges ["_law_bag_here"] (spRanges K) := by
  refine T.F_ranges.ok sc_ranges (fun vs H Q E h => ?_) (fun cdv A outer s H vs Q E hr h => ?_)
  · obtain ⟨G, M, b, o, rfl, _⟩ := h
    rfl
  · obtain ⟨G, M, b, o, rfl, S, B, q⟩ := h
    refine ⟨_, (pss_cons (ps_set (i := 1) sc_ranges.nd rfl (.inl rfl) (pe_ix (ix_k K) (pe_lst (pa_cons pe_int (pa_cons pe_int pa_nil))) (pe_op op_divY (pe_call G_pick (hr.mono (by omega)) (by rfl) T.g_pick T.F_pick.kp T.b_pick .nil pass0 (pa_cons (xv 0) (pa_cons pe_int pa_nil))) pe_int) (fun _ _ => rfl)))
      (pss_cons (ps_set (i := 2) sc_ranges.nd rfl (.inl rfl) (pe_lst pa_nil))
      (pss_cons (ps_set (i := 3) sc_ranges.nd rfl (.inl rfl) (pe_lst pa_nil))
      (pss_cons (ps_set (i := 4) sc_ranges.nd rfl (.inl rfl) pe_int)
      (pss_cons (ps_for PassesOwn.never rfl (pi_range1 (by rfl) T.m_range (pa_cons (pe_op op_addY pe_int (pe_call G_pick (hr.mono (by omega)) (by rfl) T.g_pick T.F_pick.kp T.b_pick .nil pass0 (pa_cons (xv 0) (pa_cons pe_int pa_nil)))) pa_nil)) (pg_name (i := 5) sc_ranges.nd rfl (.inl rfl))
      (pss_cons (ps_set (i := 6) sc_ranges.nd rfl (.inl rfl) (pe_ix (ix_k K) (pe_lst (pa_cons pe_int (pa_cons pe_int (pa_cons pe_int (pa_cons pe_int (pa_cons pe_int (pa_cons pe_int pa_nil))))))) (pe_call G_pick (hr.mono (by omega)) (by rfl) T.g_pick T.F_pick.kp T.b_pick .nil pass0 (pa_cons (xv 0) (pa_cons pe_int pa_nil))) (fun _ _ => rfl)))
      (pss_one (xs_if (xt_cmp op_leY (pe_op op_mulY (xv 4) (xv 6)) (xv 1) (nomark _))
      (pss_cons (ps_set (i := 4) sc_ranges.nd rfl (.inl rfl) (pe_op op_mulY (xv 4) (xv 6)))
      (pss_one (ps_expr (pe_bmK K PySem.F.plainAttrs_list PySem.F.slot_list_append PySem.F.type_list_append mt_append (xv 3) (pa_cons (pe_tup (pa_cons (pe_call G_new_name (hr.mono (by omega)) (by rfl) T.g_new_name T.F_new_name.kp T.b_new_name .nil pass0 (pa_cons (xv 0) (pa_cons (xv 2) pa_nil))) (pa_cons (xv 6) pa_nil))) pa_nil)))))
      pss_nil))))
      (pss_one (ps_ret (xv 3)))))))), ?_⟩
    refine ⟨sz, fun t0 nt0 => ?_⟩
    have S0 := (S.new (o := .lst [.int 64, .int 256]) nt0).sw
    refine ⟨G, _, b, o, 12, rfl, S0, B, by decide, by decide, fun r1 o1 H1 r10 r11 B1 S1 => ⟨⟨by decide, by decide⟩, fun q1 eq1 q10 => ?_⟩⟩
    obtain ⟨lim, hat, l1, l2⟩ : ∃ lim : Int, atI [V.int 64, .int 256] q1 = some (.int lim) ∧ 64 ≤ lim ∧ lim ≤ 256 := by
      have h2 : q1 < 2 := by rw [eq1]; exact Int.ediv_lt_of_lt_mul (by decide) (by omega)
      have h3 : q1 = 0 ∨ q1 = 1 := by omega
      rcases h3 with rfl | rfl
      · exact ⟨64, rfl, by decide, by decide⟩
      · exact ⟨256, rfl, by decide, by decide⟩
    refine ⟨_, _, .inl (SqL.of S1.sw.hd), hat, sz, fun U nU => ⟨sz, fun Rr nR => ?_⟩⟩
    have S2 := ((S1.sw.drop.new (o := .lst []) nU).new (o := .lst []) nR)
    have S3 := (S2.perm (List.Perm.trans (List.Perm.swap _ _ _) (List.Perm.cons _ (List.Perm.swap _ _ _)))).sw
    refine ⟨G, _, b, o1, 4, rfl, S3, B1, by decide, by decide, fun r2 o2 H2 r20 r21 B2 S4 => ⟨_, rfl, by omega, by omega, for_range (lo := 0) (n := (1 + r2).toNat) (fun i σ H' => ∃ (o' : HO) (us : List V) (rs : Rg) (G' : Hp) (y5 y6 : Option V), σ = [some (.ref b), some (.int lim), some (.ref U), some (.ref Rr), some (.int (cnt rs : Nat)), y5, y6] ∧ Same G G' ∧ RgsAt K G' us rs ∧ RgOk rs ∧ rs.length ≤ i ∧ (i = 0 ∧ rs = [] ∨ rs ≠ []) ∧ cnt rs ≤ 256 ∧ (∀ z ∈ rgN rs, Lt 1 8 z) ∧ Bag G' o' ∧
      Sep G' ((b, o') :: (U, .lst ((rgN rs).map V.str)) :: (Rr, .lst us) :: M) H') ⟨o2, [], [], G, _, _, rfl, Same.refl _, .nil, ⟨List.nodup_nil, fun _ h => nomatch h⟩, Nat.le_refl _, .inl ⟨rfl, rfl⟩, by decide, (fun _ h => nomatch h), B2, S4⟩ (fun i σ H' hi h => ?_) (fun σ H' h => ?_)⟩⟩
    · obtain ⟨o', us, rs, G5, y5, y6, rfl, s5, hus, ro, rl, hne, c6, hlt, B5, S5⟩ := h
      have hi4 : i < 4 := by omega
      refine ⟨sz, fun t1 nt1 => ?_⟩
      have S6 := (S5.new (o := .lst [.int 1, .int 2, .int 2, .int 3, .int 3, .int 4]) nt1).sw
      refine ⟨G5, _, b, o', 6, rfl, S6, B5, by decide, by decide, fun r3 o3 H3 r30 r31 B6 S7 => ?_⟩
      obtain ⟨n, hn, n1, n4⟩ : ∃ n : Nat, atI [V.int 1, .int 2, .int 2, .int 3, .int 3, .int 4] r3 = some (.int (n : Nat)) ∧ 1 ≤ n ∧ n ≤ 4 := by
        have h3 : r3 = 0 ∨ r3 = 1 ∨ r3 = 2 ∨ r3 = 3 ∨ r3 = 4 ∨ r3 = 5 := by omega
        rcases h3 with rfl | rfl | rfl | rfl | rfl | rfl
        · exact ⟨1, rfl, by decide, by decide⟩
        · exact ⟨2, rfl, by decide, by decide⟩
        · exact ⟨2, rfl, by decide, by decide⟩
        · exact ⟨3, rfl, by decide, by decide⟩
        · exact ⟨3, rfl, by decide, by decide⟩
        · exact ⟨4, rfl, by decide, by decide⟩
      have S8 := S7.sw.drop
      refine ⟨_, _, .inl (SqL.of S7.sw.hd), hn, .inr ⟨by omega, by omega⟩, fun e => ?_, fun e => ?_⟩
      · have e := of_decide_eq_true e
        have nl : (rgN rs).length = rs.length := List.length_map _
        have hul := prd_len hus
        refine ⟨.inr ⟨by omega, by omega⟩, .inl ⟨rfl, _, SqL.of (Sep.here (A := [_, _]) S8)⟩, ?_⟩
        refine ⟨G5, _, b, o3, U, rgN rs, rfl, S8, B6, hlt, by omega, fun z o4 H4 hz hzn _ _ B7 S9 => ⟨sz, fun t2 nt2 => ?_⟩⟩
        obtain ⟨G6, s6, S10, h6⟩ := Sep.mk (o := .tup [.str z, .int (n : Nat)]) S9 nt2
        refine ⟨Rr, _, _, rfl, rfl, Sep.here (A := [_, _]) S10, smallL (by omega), ?_⟩
        have S11 := Sep.setAt (A := [_, _]) (o' := .lst (us ++ [.ref t2])) S10
        have en : rgN (rs ++ [(z, n)]) = rgN rs ++ [z] := List.map_append ..
        refine ⟨o4, us ++ [.ref t2], rs ++ [(z, n)], G6, some (.int (0 + (i : Nat))), some (.int (n : Nat)), ?_, s5.trans s6, (rgs_same s6 hus).snoc ⟨t2, rfl, SqT.of h6⟩, ⟨?_, fun p hp => ?_⟩, by rw [List.length_append]; exact Nat.succ_le_succ rl, .inr (by simp), ?_, fun y hy => ?_, B7.same s6, by rw [en]; exact S11⟩
        · rw [cnt_snoc, Int.natCast_mul]
          rfl
        · rw [en, List.nodup_append]
          exact ⟨ro.nd, List.nodup_cons.mpr ⟨by simp, List.nodup_nil⟩, fun x hx y hy e => hzn (by rw [← List.mem_singleton.mp hy, ← e]; exact hx)⟩
        · rcases List.mem_append.mp hp with h | h
          · exact ro.sz p h
          · rw [List.mem_singleton.mp h]
            exact ⟨n1, n4⟩
        · rw [cnt_snoc]
          have : ((cnt rs * n : Nat) : Int) ≤ lim := by rw [Int.natCast_mul]; exact e
          omega
        · rw [en] at hy
          rcases List.mem_append.mp hy with h | h
          · exact hlt y h
          · rw [List.mem_singleton.mp h]
            exact hz
      · have e := of_decide_eq_false e
        refine ⟨o3, us, rs, G5, _, _, rfl, s5, hus, ro, by omega, ?_, c6, hlt, B6, S8⟩
        rcases hne with ⟨h1, h2⟩ | h
        · subst h2
          exfalso
          apply e
          show (1 : Int) * (n : Nat) ≤ lim
          omega
        · exact .inr h
    · obtain ⟨o', us, rs, G5, y5, y6, rfl, s5, hus, ro, rl, hne, c6, hlt, B5, S5⟩ := h
      have S6 := (Sep.pull (A := [_, _]) S5)
      have S7 := S6.frz.sw.drop
      have sf := S6.frzS
      refine q Rr us rs o' _ H' (s5.trans sf) (SqL.of upd_same) (rgs_same sf hus) ro ?_ (by omega) c6 hlt (B5.same sf) S7
      rcases hne with ⟨h1, h2⟩ | h
      · exfalso
        omega
      · exact h
def spDrawn (K : PySem.W.Frag) : Sp := fun vs H Q _ => ∃ (G : Hp) (M : List (Addr × HO)) (b : Addr) (o : HO) (l : Addr) (ns : List Str), vs = [.ref b, .ref l] ∧ Sep G ((b, o) :: M) H ∧ Bag G o ∧ G l = some (.lst (ns.map V.str)) ∧ ns ≠ [] ∧ ns.length ≤ 4 ∧ (∀ z ∈ ns, Lt 1 8 z) ∧
  ∀ (v : V) (f : Gm) (o' : HO) (G' H' : Hp), Same G G' → GmAt K G' v f → f.ok ns → f.dep ≤ 5 → Bag G' o' → Sep G' ((b, o') :: M) H' → Q v H'
theorem ok_drawn_form (T : Top K mg w) {k : Nat} (G_pick : FnOk P w K mg base CX0 k T.a_pick T.d_pick ["_law_bag_here", "_law_many"] spPick) (G_choice : FnOk P w K mg base CX0 k T.a_choice T.d_choice ["_law_bag_here", "_law_things"] (spChoice K)) (G_form : FnOk P w K mg base CX0 k T.a_form T.d_form ["_law_bag_here", "_law_readable", "_law_levels"] (spForm K 5)) : FnOk P w K mg base CX0 (k + 1) T.a_drawn_form T.d_drawn_form ["_law_bag_here", "_law_names"] (spDrawn K) := by
  refine T.F_drawn_form.ok sc_drawn_form (fun vs H Q E h => ?_) (fun cdv A outer s H vs Q E hr h => ?_)
  · obtain ⟨G, M, b, o, l, ns, rfl, _⟩ := h
    rfl
  · obtain ⟨G, M, b, o, l, ns, rfl, S, B, hl, ne, n4, hlt, q⟩ := h
    refine ⟨_, (pss_cons (ps_setLc (i := 3) (own := [("_law_told", 2)]) (by rfl) sc_drawn_form.nd rfl rfl (sw_true rfl rfl rfl (by decide +kernel)) (pi_listK K (xv 1)) (blkOk_by (N := ["_law_bag_here", "_law_names", "_law_told", "_law_readable", "_law_form_here", "_law_way"]) (sc := defScope s_drawn_form) (by decide +kernel)) (fun _ _ _ _ _ => (pg_name (i := 2) sc_drawn_form.nd rfl (.inl rfl))) (fun _ _ _ _ _ => (pts_one (xt_cmp op_gtY (pe_call G_pick (hr.mono (by omega)) (by rfl) T.g_pick T.F_pick.kp T.b_pick .nil pass0 (pa_cons (xv 0) (pa_cons pe_int pa_nil))) pe_int (nomark _)))) (fun _ _ _ _ _ => (xv 2)))
      (pss_cons (ps_set (i := 4) sc_drawn_form.nd rfl (.inl rfl) (pe_call G_form (hr.mono (by omega)) (by rfl) T.g_form T.F_form.kp T.b_form .nil pass0 (pa_cons (xv 0) (pa_cons (xv 3) (pa_cons (pe_op op_addY pe_int (pe_call G_pick (hr.mono (by omega)) (by rfl) T.g_pick T.F_pick.kp T.b_pick .nil pass0 (pa_cons (xv 0) (pa_cons pe_int pa_nil)))) pa_nil)))))
      (pss_cons (ps_set (i := 5) sc_drawn_form.nd rfl (.inl rfl) (pe_call G_pick (hr.mono (by omega)) (by rfl) T.g_pick T.F_pick.kp T.b_pick .nil pass0 (pa_cons (xv 0) (pa_cons pe_int pa_nil))))
      (pss_cons (xs_if (xt_cmp (op_eqLK K hr.u190) (xv 5) pe_int (nomark _))
      (pss_one (ps_ret (pe_call G_form (hr.mono (by omega)) (by rfl) T.g_form T.F_form.kp T.b_form .nil pass0 (pa_cons (xv 0) (pa_cons (xv 3) (pa_cons pe_int pa_nil))))))
      pss_nil)
      (pss_cons (xs_if (xt_cmp op_gtY (xv 5) pe_int (nomark _))
      (pss_cons (ps_set (i := 4) sc_drawn_form.nd rfl (.inl rfl) (pe_tup (pa_cons pe_str (pa_cons (pe_ix (ix_k K) (xv 1) pe_int (fun _ _ => rfl)) pa_nil))))
      (pss_cons (ps_for PassesOwn.never rfl (pi_listK K (pe_slice (sl_listK K) (xv 1) (po_some pe_int) po_none)) (pg_name (i := 2) sc_drawn_form.nd rfl (.inl rfl))
      (pss_one (xs_if (xt_cmp op_gtY (pe_call G_pick (hr.mono (by omega)) (by rfl) T.g_pick T.F_pick.kp T.b_pick .nil pass0 (pa_cons (xv 0) (pa_cons pe_int pa_nil))) pe_int (nomark _))
      (pss_one (ps_set (i := 4) sc_drawn_form.nd rfl (.inl rfl) (pe_tup (pa_cons (pe_ix (ix_k K) (pe_lst (pa_cons pe_str (pa_cons pe_str (pa_cons pe_str pa_nil)))) (pe_call G_pick (hr.mono (by omega)) (by rfl) T.g_pick T.F_pick.kp T.b_pick .nil pass0 (pa_cons (xv 0) (pa_cons pe_int pa_nil))) (fun _ _ => rfl)) (pa_cons (xv 4) (pa_cons (pe_tup (pa_cons pe_str (pa_cons (xv 2) pa_nil))) pa_nil))))))
      pss_nil)))
      (pss_one (ps_ret (xv 4)))))
      pss_nil)
      (pss_cons (xs_if (PW.pt (xw_and (xt_cmp (op_eqLK K hr.u190) (xv 5) pe_int (nomark _)) (pw_and1 (xt_cmp (op_neLK K hr.u190) (xv 3) (pe_lst pa_nil) (nomark _)))))
      (pss_one (ps_ret (pe_tup (pa_cons pe_str (pa_cons (xv 4) (pa_cons (pe_tup (pa_cons pe_str (pa_cons (pe_call G_choice (hr.mono (by omega)) (by rfl) T.g_choice T.F_choice.kp T.b_choice .nil pass0 (pa_cons (xv 0) (pa_cons (xv 3) pa_nil))) pa_nil))) pa_nil))))))
      pss_nil)
      (pss_cons (xs_if (PW.pt (xw_and (xt_cmp (op_eqLK K hr.u190) (xv 5) pe_int (nomark _)) (pw_and1 (xt_cmp (op_neLK K hr.u190) (xv 3) (pe_lst pa_nil) (nomark _)))))
      (pss_one (ps_ret (pe_tup (pa_cons pe_str (pa_cons (pe_tup (pa_cons pe_str (pa_cons (pe_call G_choice (hr.mono (by omega)) (by rfl) T.g_choice T.F_choice.kp T.b_choice .nil pass0 (pa_cons (xv 0) (pa_cons (xv 3) pa_nil))) pa_nil))) (pa_cons (xv 4) (pa_cons (pe_tup (pa_cons pe_str (pa_cons (pe_call G_pick (hr.mono (by omega)) (by rfl) T.g_pick T.F_pick.kp T.b_pick .nil pass0 (pa_cons (xv 0) (pa_cons pe_int pa_nil))) pa_nil))) pa_nil)))))))
      pss_nil)
      (pss_one (ps_ret (xv 4)))))))))), ?_⟩
    have hl' := S.st hl
    refine ⟨l, rfl, ⟨_, SqL.of hl'⟩, fun D nD => lc_list (xs := ns.map V.str) (fun i H' => ∃ (o' : HO) (rd : List Str), (∀ x ∈ rd, x ∈ ns) ∧ rd.length ≤ i ∧ Bag G o' ∧ Sep G ((b, o') :: (D, .lst (rd.map V.str)) :: M) H') ⟨o, [], (fun _ h => nomatch h), Nat.le_refl _, B, (S.new nD).sw⟩ (fun i H' _ h => ?_) (fun i x H' hx h => ⟨rfl, ?_⟩) (fun H' h => ?_)⟩
    · obtain ⟨_, _, _, _, _, S2⟩ := h
      exact S2.l (SqL.of hl)
    · obtain ⟨o', rd, h1, h2, B2, S2⟩ := h
      rw [List.getElem?_map] at hx
      obtain ⟨x', hx', rfl⟩ := Option.map_eq_some_iff.mp hx
      have il := (List.getElem?_eq_some_iff.mp hx').1
      refine ⟨G, _, b, o', 4, rfl, S2, B2, by decide, by decide, fun r o2 H2 r0 r1 B3 S3 => ?_⟩
      show (if decide (0 < r) = true then _ else _)
      split
      · refine ⟨_, Sep.here (A := [_]) S3, by rw [List.length_map]; exact smallL (by omega), o2, rd ++ [x'], fun y hy => ?_, by rw [List.length_append]; exact Nat.succ_le_succ h2, B3, ?_⟩
        · rcases List.mem_append.mp hy with h | h
          · exact h1 y h
          · rw [List.mem_singleton.mp h]
            exact List.mem_of_getElem? hx'
        · rw [List.map_append]
          exact Sep.setAt (A := [_]) S3
      · exact ⟨o2, rd, h1, Nat.le_succ_of_le h2, B3, S3⟩
    obtain ⟨o1, rd, h1, h2, B1, S1⟩ := h
    rw [List.length_map] at h2
    obtain ⟨G1, s1, S2, hD⟩ := Sep.keep S1.sw
    have B2 := B1.same s1
    have hl1 := s1 _ _ hl
    have okM : ∀ {f : Gm}, f.ok rd → f.ok ns := fun {f} h => gm_ok h1 h
    refine ⟨G1, M, b, o1, 4, rfl, S2, B2, by decide, by decide, fun r o2 H2 r0 r1 B3 S3 => ?_⟩
    refine ⟨G1, M, b, o2, D, rd, 1 + r, rfl, S3, B3, hD, by omega, by omega, by omega, fun v f o3 G2 H3 s2 hf ok dp B4 S4 => ?_⟩
    refine ⟨G2, M, b, o3, 6, rfl, S4, B4, by decide, by decide, fun wy o4 H4 w0 w6 B5 S5 => ?_⟩
    have hD2 := s2 _ _ hD
    have s12 := s1.trans s2
    refine ⟨fun e => ?_, fun e0 => ⟨fun e => ?_, fun e3 => ?_⟩⟩
    · exact ⟨G2, M, b, o4, D, rd, 5, rfl, S5, B5, hD2, by omega, by decide, by decide, fun v f o5 G3 H5 s3 hf ok dp B6 S6 => q v f o5 G3 H5 (s12.trans s3) hf (okM ok) (by omega) B6 S6⟩
    · obtain ⟨x0, nr, rfl⟩ : ∃ x0 nr, ns = x0 :: nr := by
        cases ns with
        | nil => exact absurd rfl ne
        | cons x r => exact ⟨x, r, rfl⟩
      have hl2 := s12 _ _ hl
      refine ⟨_, .str x0, .inl (SqL.of (S5.st hl2)), at0, sz, fun t nt => ?_⟩
      obtain ⟨G3, s3, S6, h6⟩ := Sep.mk (o := .tup [.str "get", .str x0]) S5 nt
      have hl3 := s3 _ _ hl2
      refine ⟨1, rfl, l, _, rfl, SqL.of (S6.st hl3), fun p np => ?_⟩
      have ec : cutV ((x0 :: nr).map V.str) (some 1) none = nr.map V.str := cutV_from _ 1 (by simp)
      have S7 := S6.newG (o := .lst (nr.map V.str)) np
      have s7 := S6.grow (o := .lst (nr.map V.str)) np
      rw [ec]
      refine ⟨p, rfl, ⟨_, SqL.of upd_same⟩, for_list (xs := nr.map V.str) (fun i σ H' => ∃ (y2 : Option V) (v' : V) (f' : Gm) (o' : HO) (G' : Hp), σ = [some (.ref b), some (.ref l), y2, some (.ref D), some v', some (.int wy)] ∧ Same (upd G3 p (.lst (nr.map V.str))) G' ∧ GmAt K G' v' f' ∧ f'.ok (x0 :: nr) ∧ f'.dep ≤ 1 + i ∧ Bag G' o' ∧ Sep G' ((b, o') :: M) H') ⟨_, _, .get x0, o4, _, rfl, Same.refl _, .get (SqT.of (s7 _ _ h6)), List.mem_cons_self, Nat.le_refl _, (B5.same s3).same s7, S7⟩ (fun i σ H' _ h => ?_) (fun i x σ H' hx h => ?_) (fun σ H' h => ?_)⟩
      · obtain ⟨_, _, _, _, G8, _, s8, _, _, _, _, S8⟩ := h
        exact SqL.of (S8.st (s8 _ _ upd_same))
      · obtain ⟨y2, v', f', o', G8, rfl, s8, hf', ok', dp', B8, S8⟩ := h
        rw [List.getElem?_map] at hx
        obtain ⟨z, hz, rfl⟩ := Option.map_eq_some_iff.mp hx
        have hzn : z ∈ x0 :: nr := List.mem_cons_of_mem _ (List.mem_of_getElem? hz)
        refine ⟨G8, M, b, o', 4, rfl, S8, B8, by decide, by decide, fun r9 o9 H9 _ _ B9 S9 => ⟨fun _ => ?_, fun _ => ⟨_, v', f', o9, G8, rfl, s8, hf', ok', by omega, B9, S9⟩⟩⟩
        refine ⟨sz, fun t0 nt0 => ?_⟩
        have S10 := S9.newG (o := .lst [.str "sum", .str "same", .str "sum"]) nt0
        have s10 := S9.grow (o := .lst [.str "sum", .str "same", .str "sum"]) nt0
        refine ⟨_, M, b, o9, 3, rfl, S10, B9.same s10, by decide, by decide, fun r11 o11 H11 r0 r1 B11 S11 => ?_⟩
        have hL0 : SqL K H11 t0 [.str "sum", .str "same", .str "sum"] := SqL.of (S11.st upd_same)
        have fin : ∀ (u : Str) (g : Gm), (∀ (G' : Hp) (t t2 : Addr), Same G8 G' → SqT K G' t2 [.str "get", .str z] → SqT K G' t [.str u, v', .ref t2] → GmAt K G' (.ref t) g) → g.ok (x0 :: nr) → g.dep ≤ 1 + (i + 1) →
            ∀ t2, H11 t2 = none → ∀ t, (upd H11 t2 (.tup [.str "get", .str z])) t = none → ∃ (y2 : Option V) (v9 : V) (f9 : Gm) (o' : HO) (G' : Hp), ([some (.ref b), some (.ref l), some (.str z), some (.ref D), some (.ref t), some (.int wy)] : List (Option V)) = [some (.ref b), some (.ref l), y2, some (.ref D), some v9, some (.int wy)] ∧ Same (upd G3 p (.lst (nr.map V.str))) G' ∧ GmAt K G' v9 f9 ∧ f9.ok (x0 :: nr) ∧ f9.dep ≤ 1 + (i + 1) ∧ Bag G' o' ∧ Sep G' ((b, o') :: M) (upd (upd H11 t2 (.tup [.str "get", .str z])) t (.tup [.str u, v', .ref t2])) := fun u g hg ok dp t2 nt2 t nt => by
          obtain ⟨G12, s12', S12, h12⟩ := Sep.mk (o := .tup [.str "get", .str z]) S11 nt2
          obtain ⟨G13, s13, S13, h13⟩ := Sep.mk (o := .tup [.str u, v', .ref t2]) S12 nt
          have s813 := (s10.trans s12').trans s13
          exact ⟨_, _, g, o11, G13, rfl, s8.trans s813, hg G13 t t2 s813 (SqT.of (s13 _ _ h12)) (SqT.of h13), ok, dp, (B11.same s12').same s13, S13⟩
        obtain rfl | rfl | rfl : r11 = 0 ∨ r11 = 1 ∨ r11 = 2 := by omega
        · exact ⟨_, _, .inl hL0, rfl, sz, fun t2 nt2 => ⟨sz, fun t nt => fin "sum" (.sum f' (.get z)) (fun G' t t2 s h1 h2 => .sum h2 (hf'.same' s) (.get h1)) ⟨ok', hzn⟩ (by simp only [Gm.dep]; omega) t2 nt2 t nt⟩⟩
        · exact ⟨_, _, .inl hL0, rfl, sz, fun t2 nt2 => ⟨sz, fun t nt => fin "same" (.same f' (.get z)) (fun G' t t2 s h1 h2 => .same h2 (hf'.same' s) (.get h1)) ⟨ok', hzn⟩ (by simp only [Gm.dep]; omega) t2 nt2 t nt⟩⟩
        · exact ⟨_, _, .inl hL0, rfl, sz, fun t2 nt2 => ⟨sz, fun t nt => fin "sum" (.sum f' (.get z)) (fun G' t t2 s h1 h2 => .sum h2 (hf'.same' s) (.get h1)) ⟨ok', hzn⟩ (by simp only [Gm.dep]; omega) t2 nt2 t nt⟩⟩
      · obtain ⟨_, v', f', o', G8, rfl, s8, hf', ok', dp', B8, S8⟩ := h
        rw [List.length_map] at dp'
        rw [List.length_cons] at n4
        exact q v' f' o' G8 H' (((s12.trans s3).trans s7).trans s8) hf' ok' (by omega) B8 S8
    · have hltr : ∀ z ∈ rd, Lt 1 8 z := fun z hz => hlt z (h1 z hz)
      have hlay := lay_ls hltr
      have plain : ∀ (G5 H5 : Hp) (o5 : HO), Same G2 G5 → Bag G5 o5 → Sep G5 ((b, o5) :: M) H5 → Q v H5 := fun G5 H5 o5 s5 B6 S6 => q v f o5 G5 H5 (s12.trans s5) (hf.same' s5) (okM ok) (by omega) B6 S6
      have two : ∀ (H5 : Hp), Sep G2 ((b, o4) :: M) H5 → tSeq (xIfS (xAnd (xB (tOp (yEqL K) (xVar 5) (tC (V.int 2)))) (xB (tOp (yNeL K) (xVar 3) (tLst tNil)))) (tRet (tTup (tCons (tC (V.str (Str.ofString "pick"))) (tCons (tTup (tCons (tC (V.str (Str.ofString "get"))) (tCons (tCall (spChoice K) [] E0 (tCons (xVar 0) (tCons (xVar 3) tNil))) tNil))) (tCons (xVar 4) (tCons (tTup (tCons (tC (V.str (Str.ofString "is"))) (tCons (tCall spPick [] E0 (tCons (xVar 0) (tCons (tC (V.int 10)) tNil))) tNil))) tNil)))))) tNext) (tRet (xVar 4)) { nx := fun x H' => Q V.non H', rt := Q } [some (.ref b), some (.ref l), none, some (.ref D), some v, some (.int wy)] H5 := fun H5 S6 => by
        refine ⟨fun e => ?_, fun e => ⟨(fun e => nomatch e), fun _ => plain G2 H5 o4 (Same.refl _) B5 S6⟩⟩
        refine ⟨sz, fun em nem => ?_⟩
        have S7 := (S6.new (o := .lst []) nem).sw
        refine ⟨lsD rd, .list [], dp_ls (SqL.of (S7.st hD2)), .lst (SqL.of S7.sw.hd) .nil, hlay.1, rfl, hlay.2, ?_⟩
        rw [eqv_nil]
        refine ⟨fun e => ?_, fun e => plain G2 _ o4 (Same.refl _) B5 S7.sw.drop⟩
        have hne : 0 < (rd.map V.str).length := by
          cases rd with
          | nil => exact nomatch e
          | cons _ _ => simp
        refine ⟨G2, _, b, o4, D, _, rfl, S7, B5, SqL.of hD2, hne, by rw [List.length_map]; omega, fun u o5 H6 hu B6 S8 => ⟨sz, fun t nt => ?_⟩⟩
        obtain ⟨z, hz, rfl⟩ := List.mem_map.mp hu
        obtain ⟨G3, s3, S9, h9⟩ := Sep.mk (o := .tup [.str "get", .str z]) S8 nt
        refine ⟨G3, _, b, o5, 10, rfl, S9, B6.same s3, by decide, by decide, fun r5 o6 H7 r50 r51 B7 S10 => ⟨sz, fun t2 nt2 => ⟨sz, fun t3 nt3 => ?_⟩⟩⟩
        obtain ⟨G4, s4, S11, h11⟩ := Sep.mk (o := .tup [.str "is", .int r5]) S10 nt2
        obtain ⟨G5, s5, S12, h12⟩ := Sep.mk (o := .tup [.str "pick", .ref t, v, .ref t2]) S11 nt3
        have s35 := (s3.trans s4).trans s5
        exact q _ (.pick (.get z) f (.is r5)) o6 G5 _ (s12.trans s35) (.pick (SqT.of h12) (.get (SqT.of (s5 _ _ (s4 _ _ h9)))) (hf.same' s35) (.is (SqT.of (s5 _ _ h11)))) ⟨h1 z hz, okM ok, ⟨r50, by omega⟩⟩ (by simp only [Gm.dep]; omega) ((B7.same s4).same s5) S12.sw.drop
      refine ⟨fun e => ?_, fun e => ⟨(fun e => nomatch e), fun _ => two H4 S5⟩⟩
      refine ⟨sz, fun em nem => ?_⟩
      have S7 := (S5.new (o := .lst []) nem).sw
      refine ⟨lsD rd, .list [], dp_ls (SqL.of (S7.st hD2)), .lst (SqL.of S7.sw.hd) .nil, hlay.1, rfl, hlay.2, ?_⟩
      rw [eqv_nil]
      refine ⟨fun e => ?_, fun e => two _ S7.sw.drop⟩
      have hne : 0 < (rd.map V.str).length := by
        cases rd with
        | nil => exact nomatch e
        | cons _ _ => simp
      refine ⟨G2, _, b, o4, D, _, rfl, S7, B5, SqL.of hD2, hne, by rw [List.length_map]; omega, fun u o5 H6 hu B6 S8 => ⟨sz, fun t nt => ⟨sz, fun t3 nt3 => ?_⟩⟩⟩
      obtain ⟨z, hz, rfl⟩ := List.mem_map.mp hu
      obtain ⟨G3, s3, S9, h9⟩ := Sep.mk (o := .tup [.str "get", .str z]) S8 nt
      obtain ⟨G5, s5, S12, h12⟩ := Sep.mk (o := .tup [.str "sum", v, .ref t]) S9 nt3
      have s35 := s3.trans s5
      exact q _ (.sum f (.get z)) o5 G5 _ (s12.trans s35) (.sum (SqT.of h12) (hf.same' s35) (.get (SqT.of (s5 _ _ h9)))) ⟨okM ok, h1 z hz⟩ (by simp only [Gm.dep]; omega) ((B6.same s3).same s5) S12.sw.drop

end
end K43
set_option Elab.async false
set_option linter.all false
set_option maxRecDepth 100000
set_option maxHeartbeats 4000000
namespace K43
open PySem PySem.Spec PyProof.Rows L2 XL
section
variable {P : Program} {w : World} {K : PySem.W.Frag} {mg : Str → Option Value} {base : Heap}
def spListed (K : PySem.W.Frag) : Sp := fun vs H Q _ => ∃ (G : Hp) (M : List (Addr × HO)) (b : Addr) (o : HO) (l l2 : Addr) (ns nd : List Str), vs = [.ref b, .ref l, .ref l2] ∧ Sep G ((b, o) :: M) H ∧ Bag G o ∧ G l = some (.lst (ns.map V.str)) ∧ G l2 = some (.lst (nd.map V.str)) ∧ ns.length ≤ 4 ∧ nd.length ≤ 4 ∧ (∀ x ∈ nd, x ∈ ns) ∧ (∀ z ∈ ns, Lt 1 8 z) ∧
  ∀ (p : Addr) (ls : List Str) (o' : HO) (G' H' : Hp), Same G G' → SqL K G' p (ls.map V.str) → ls.length ≤ 8 → (∀ x ∈ ls, x ∈ ns) → Bag G' o' → Sep G' ((b, o') :: M) H' → Q (.ref p) H'
theorem ok_listed (T : Top K mg w) {k : Nat} (G_pick : FnOk P w K mg base CX0 k T.a_pick T.d_pick ["_law_bag_here", "_law_many"] spPick) (G_mingled : FnOk P w K mg base CX0 k T.a_mingled T.d_mingled ["_law_bag_here", "_law_things"] (spMingled K)) : FnOk P w K mg base CX0 (k + 5) T.a_listed T.d_listed ["_law_bag_here", "_law_names", "_law_need"] (spListed K) := by
  refine T.F_listed.ok sc_listed (fun vs H Q E h => ?_) (fun cdv A outer s H vs Q E hr h => ?_)
  · obtain ⟨G, M, b, o, l, l2, ns, nd, rfl, _⟩ := h
    rfl
  · obtain ⟨G, M, b, o, l, l2, ns, nd, rfl, S, B, hl, hl2, n4, n42, sub, hlt, q⟩ := h
    refine ⟨_, (pss_cons (ps_set (i := 3) sc_listed.nd rfl (.inl rfl) (pe_call G_pick (hr.mono (by omega)) (by rfl) T.g_pick T.F_pick.kp T.b_pick .nil pass0 (pa_cons (xv 0) (pa_cons pe_int pa_nil))))
      (pss_cons (ps_setLc (i := 4) (own := [("_law_told", 6)]) (by rfl) sc_listed.nd rfl rfl (sw_true rfl rfl rfl (by decide +kernel)) (pi_listK K (xv 1)) (blkOk_by (N := ["_law_bag_here", "_law_names", "_law_need", "_law_way", "_law_rest", "_law_some", "_law_told"]) (sc := defScope s_listed) (by decide +kernel)) (fun _ _ _ _ _ => (pg_name (i := 6) sc_listed.nd rfl (.inl rfl))) (fun _ _ _ _ _ => (pts_one (xt_cmp (notin_seqK K) (xv 6) (xv 2) (by rfl)))) (fun _ _ _ _ _ => (xv 6)))
      (pss_cons (ps_setLc (i := 5) (own := [("_law_told", 6)]) (by rfl) sc_listed.nd rfl rfl (sw_true rfl rfl rfl (by decide +kernel)) (pi_listK K (xv 4)) (blkOk_by (N := ["_law_bag_here", "_law_names", "_law_need", "_law_way", "_law_rest", "_law_some", "_law_told"]) (sc := defScope s_listed) (by decide +kernel)) (fun _ _ _ _ _ => (pg_name (i := 6) sc_listed.nd rfl (.inl rfl))) (fun _ _ _ _ _ => (pts_one (xt_cmp (op_eqLK K hr.u190) (pe_call G_pick (hr.mono (by omega)) (by rfl) T.g_pick T.F_pick.kp T.b_pick .nil pass0 (pa_cons (xv 0) (pa_cons pe_int pa_nil))) pe_int (nomark _)))) (fun _ _ _ _ _ => (xv 6)))
      (pss_cons (xs_if (xt_cmp (op_eqLK K hr.u190) (xv 3) pe_int (nomark _))
      (pss_one (ps_ret (pe_call G_mingled (hr.mono (by omega)) (by rfl) T.g_mingled T.F_mingled.kp T.b_mingled .nil pass0 (pa_cons (xv 0) (pa_cons (xv 2) pa_nil)))))
      pss_nil)
      (pss_cons (xs_if (xt_cmp (op_eqLK K hr.u190) (xv 3) pe_int (nomark _))
      (pss_one (ps_ret (pe_call G_mingled (hr.mono (by omega)) (by rfl) T.g_mingled T.F_mingled.kp T.b_mingled .nil pass0 (pa_cons (xv 0) (pa_cons (pe_op op_addY (xv 2) (xv 5)) pa_nil)))))
      pss_nil)
      (pss_cons (xs_if (PW.pt (xw_and (xt_cmp (op_eqLK K hr.u190) (xv 3) pe_int (nomark _)) (pw_and1 (xt_cmp (op_neLK K hr.u190) (xv 2) (pe_lst pa_nil) (nomark _)))))
      (pss_one (ps_ret (pe_slice (sl_listK K) (pe_call G_mingled (hr.mono (by omega)) (by rfl) T.g_mingled T.F_mingled.kp T.b_mingled .nil pass0 (pa_cons (xv 0) (pa_cons (pe_op op_addY (xv 2) (xv 5)) pa_nil))) (po_some pe_int) po_none)))
      pss_nil)
      (pss_one (ps_ret (pe_call G_mingled (hr.mono (by omega)) (by rfl) T.g_mingled T.F_mingled.kp T.b_mingled .nil pass0 (pa_cons (xv 0) (pa_cons (pe_lc (own := [("_law_told", 6)]) (by rfl) sc_listed.nd (pi_listK K (xv 1)) (blkOk_by (N := ["_law_bag_here", "_law_names", "_law_need", "_law_way", "_law_rest", "_law_some", "_law_told"]) (sc := defScope s_listed) (by decide +kernel)) (fun _ _ _ _ _ => (pg_name (i := 6) sc_listed.nd rfl (.inl rfl))) (fun _ _ _ _ _ => (pts_one (xt_cmp (op_eqLK K hr.u190) (pe_call G_pick (hr.mono (by omega)) (by rfl) T.g_pick T.F_pick.kp T.b_pick .nil pass0 (pa_cons (xv 0) (pa_cons pe_int pa_nil))) pe_int (nomark _)))) (fun _ _ _ _ _ => (xv 6))) pa_nil))))))))))), ?_⟩
    refine ⟨G, M, b, o, 4, rfl, S, B, by decide, by decide, fun wy o1 H1 w0 w4 B1 S1 => ?_⟩
    refine ⟨l, rfl, ⟨_, S1.l (SqL.of hl)⟩, fun D nD => lc_list (xs := ns.map V.str) (fun i H' => ∃ (rd : List Str), (∀ x ∈ rd, x ∈ ns) ∧ rd.length ≤ i ∧ Sep G ((b, o1) :: (D, .lst (rd.map V.str)) :: M) H') ⟨[], (fun _ h => nomatch h), Nat.le_refl _, (S1.new nD).sw⟩ (fun i H' _ h => ?_) (fun i x H' hx h => ⟨rfl, ?_⟩) (fun H2 h => ?_)⟩
    · obtain ⟨_, _, _, S2⟩ := h
      exact S2.l (SqL.of hl)
    · obtain ⟨rd, h1, h2, S2⟩ := h
      rw [List.getElem?_map] at hx
      obtain ⟨x', hx', rfl⟩ := Option.map_eq_some_iff.mp hx
      have il := (List.getElem?_eq_some_iff.mp hx').1
      refine ⟨l2, _, rfl, .inl (S2.l (SqL.of hl2)), rfl, strs_flat _, ?_⟩
      show (if (!inV (.str x') (nd.map V.str)) = true then _ else _)
      split
      · refine ⟨_, Sep.here (A := [_]) S2, by rw [List.length_map]; exact smallL (by omega), rd ++ [x'], fun y hy => ?_, by rw [List.length_append]; exact Nat.succ_le_succ h2, ?_⟩
        · rcases List.mem_append.mp hy with h | h
          · exact h1 y h
          · rw [List.mem_singleton.mp h]
            exact List.mem_of_getElem? hx'
        · rw [List.map_append]
          exact Sep.setAt (A := [_]) S2
      · exact ⟨rd, h1, Nat.le_succ_of_le h2, S2⟩
    obtain ⟨rd, h1, h2, S2⟩ := h
    rw [List.length_map] at h2
    obtain ⟨G1, s1, S3, hD⟩ := Sep.keep S2.sw
    refine ⟨D, rfl, ⟨_, SqL.of (S3.st hD)⟩, fun D2 nD2 => lc_list (xs := rd.map V.str) (fun i H' => ∃ (o' : HO) (sm : List Str), (∀ x ∈ sm, x ∈ ns) ∧ sm.length ≤ i ∧ Bag G1 o' ∧ Sep G1 ((b, o') :: (D2, .lst (sm.map V.str)) :: M) H') ⟨o1, [], (fun _ h => nomatch h), Nat.le_refl _, B1.same s1, (S3.new nD2).sw⟩ (fun i H' _ h => ?_) (fun i x H' hx h => ⟨rfl, ?_⟩) (fun H4 h => ?_)⟩
    · obtain ⟨_, _, _, _, _, S4⟩ := h
      exact SqL.of (S4.st hD)
    · obtain ⟨o', sm, h3, h4, B4, S4⟩ := h
      rw [List.getElem?_map] at hx
      obtain ⟨x', hx', rfl⟩ := Option.map_eq_some_iff.mp hx
      have il := (List.getElem?_eq_some_iff.mp hx').1
      refine ⟨G1, _, b, o', 2, rfl, S4, B4, by decide, by decide, fun r o2 H5 r0 r1 B5 S5 => ?_⟩
      show (if decide (r = 0) = true then _ else _)
      split
      · refine ⟨_, Sep.here (A := [_]) S5, by rw [List.length_map]; exact smallL (by omega), o2, sm ++ [x'], fun y hy => ?_, by rw [List.length_append]; exact Nat.succ_le_succ h4, B5, ?_⟩
        · rcases List.mem_append.mp hy with h | h
          · exact h3 y h
          · rw [List.mem_singleton.mp h]
            exact h1 _ (List.mem_of_getElem? hx')
        · rw [List.map_append]
          exact Sep.setAt (A := [_]) S5
      · exact ⟨o2, sm, h3, Nat.le_succ_of_le h4, B5, S5⟩
    obtain ⟨o2, sm, h3, h4, B4, S4⟩ := h
    rw [List.length_map] at h4
    obtain ⟨G2, s2, S5, hD2⟩ := Sep.keep S4.sw
    have s12 := s1.trans s2
    have B5 := B4.same s2
    have hl22 := s12 _ _ hl2
    -- mingled
    have ming : ∀ {G5 : Hp} {xs : List Str} {ys : List V} {p : Addr} {G6 H6 : Hp} {o6 : HO}, Same G G5 → Same G5 G6 → G6 p = some (.lst ys) → ys.Perm (xs.map V.str) → xs.length ≤ 8 → (∀ x ∈ xs, x ∈ ns) → Bag G6 o6 → Sep G6 ((b, o6) :: M) H6 → Q (.ref p) H6 := fun sa sb hp hm hl hs B S => by
      obtain ⟨ls, rfl, hpm⟩ := perm_strs hm
      exact q _ ls _ _ _ (sa.trans sb) (SqL.of hp) (by rw [hpm.length_eq]; exact hl) (fun x hx => hs x (hpm.mem_iff.mp hx)) B S
    have last : ∀ (H5 : Hp), Sep G2 ((b, o2) :: M) H5 → tRet (tCall (spMingled K) [] E0 (tCons (xVar 0) (tCons (tLc (iList K (xVar 1)) (gName 6) (xB (tOp (yEqL K) (tCall spPick [] E0 (tCons (xVar 0) (tCons (tC (V.int 2)) tNil))) (tC (V.int 0)))) (xVar 6) (List.map (fun x => x.snd) [(Str.ofString "_law_told", 6)])) tNil))) { nx := fun x H' => Q V.non H', rt := Q } [some (.ref b), some (.ref l), some (.ref l2), some (.int wy), some (.ref D), some (.ref D2), none] H5 := fun H5 S6 => by
      refine ⟨l, rfl, ⟨_, SqL.of (S6.st (s12 _ _ hl))⟩, fun D3 nD3 => lc_list (xs := ns.map V.str) (fun i H' => ∃ (o' : HO) (sm : List Str), (∀ x ∈ sm, x ∈ ns) ∧ sm.length ≤ i ∧ Bag G2 o' ∧ Sep G2 ((b, o') :: (D3, .lst (sm.map V.str)) :: M) H') ⟨o2, [], (fun _ h => nomatch h), Nat.le_refl _, B5, (S6.new nD3).sw⟩ (fun i H' _ h => ?_) (fun i x H' hx h => ⟨rfl, ?_⟩) (fun H7 h => ?_)⟩
      · obtain ⟨_, _, _, _, _, S7⟩ := h
        exact SqL.of (S7.st (s12 _ _ hl))
      · obtain ⟨o', sm, h5, h6, B7, S7⟩ := h
        rw [List.getElem?_map] at hx
        obtain ⟨x', hx', rfl⟩ := Option.map_eq_some_iff.mp hx
        have il := (List.getElem?_eq_some_iff.mp hx').1
        refine ⟨G2, _, b, o', 2, rfl, S7, B7, by decide, by decide, fun r o3 H8 r0 r1 B8 S8 => ?_⟩
        show (if decide (r = 0) = true then _ else _)
        split
        · refine ⟨_, Sep.here (A := [_]) S8, by rw [List.length_map]; exact smallL (by omega), o3, sm ++ [x'], fun y hy => ?_, by rw [List.length_append]; exact Nat.succ_le_succ h6, B8, ?_⟩
          · rcases List.mem_append.mp hy with h | h
            · exact h5 y h
            · rw [List.mem_singleton.mp h]
              exact List.mem_of_getElem? hx'
          · rw [List.map_append]
            exact Sep.setAt (A := [_]) S8
        · exact ⟨o3, sm, h5, Nat.le_succ_of_le h6, B8, S8⟩
      obtain ⟨o3, sm, h5, h6, B7, S7⟩ := h
      rw [List.length_map] at h6
      obtain ⟨G3, s3, S8, hD3⟩ := Sep.keep S7.sw
      exact ⟨G3, M, b, o3, D3, _, rfl, S8, B7.same s3, SqL.of hD3, by rw [List.length_map]; omega, fun p ys o' G' H' s hp hm B S => ming (s12.trans s3) s hp hm (by omega) h5 B S⟩
    have both : ∀ x ∈ nd ++ sm, x ∈ ns := fun x hx => by
      rcases List.mem_append.mp hx with h | h
      · exact sub x h
      · exact h3 x h
    have blen : (nd ++ sm).length ≤ 8 := by rw [List.length_append]; omega
    have eA : nd.map V.str ++ sm.map V.str = (nd ++ sm).map V.str := List.map_append.symm
    refine ⟨fun e => ?_, fun e => ⟨fun e => ?_, fun e => ⟨fun e => ?_, fun e => ⟨(fun e => nomatch e), fun _ => last H4 S5⟩⟩⟩⟩
    · exact ⟨G2, M, b, o2, l2, _, rfl, S5, B5, SqL.of hl22, by rw [List.length_map]; omega, fun p ys o' G' H' s hp hm B S => ming s12 s hp hm (by omega) sub B S⟩
    · refine ⟨l2, D2, _, _, rfl, rfl, S5.st hl22, S5.st hD2, small (by rw [List.length_map, List.length_map]; omega), fun A nA => ?_⟩
      rw [eA]
      obtain ⟨G3, s3, S6, hA⟩ := Sep.mk (o := .lst ((nd ++ sm).map V.str)) S5 nA
      exact ⟨G3, M, b, o2, A, _, rfl, S6, B5.same s3, SqL.of hA, by rw [List.length_map]; omega, fun p ys o' G' H' s hp hm B S => ming (s12.trans s3) s hp hm blen both B S⟩
    · refine ⟨sz, fun em nem => ?_⟩
      have S6 := S5.new (o := .lst []) nem
      have hlay := lay_ls (ns := nd) fun z hz => hlt z (sub z hz)
      refine ⟨lsD nd, .list [], dp_ls (SqL.of (S6.st hl22)), .lst (SqL.of S6.hd) .nil, hlay.1, rfl, hlay.2, ?_⟩
      rw [eqv_nil]
      refine ⟨fun e => ?_, fun e => last _ S6.drop⟩
      have S7 := S6.drop
      refine ⟨l2, D2, _, _, rfl, rfl, S7.st hl22, S7.st hD2, small (by rw [List.length_map, List.length_map]; omega), fun A nA => ?_⟩
      rw [eA]
      obtain ⟨G3, s3, S8, hA⟩ := Sep.mk (o := .lst ((nd ++ sm).map V.str)) S7 nA
      refine ⟨G3, M, b, o2, A, _, rfl, S8, B5.same s3, SqL.of hA, by rw [List.length_map]; omega, fun p ys o' G' H' s hp hm B S => ⟨1, rfl, p, _, rfl, SqL.of (S.st hp), fun p2 np2 => ?_⟩⟩
      obtain ⟨ls, rfl, hpm⟩ := perm_strs hm
      have hlen := hpm.length_eq
      have hpos : 1 ≤ (ls.map V.str).length := by
        rw [List.length_map, hlen, List.length_append]
        cases nd with
        | nil => exact nomatch e
        | cons _ _ => simp only [List.length_cons]; omega
      have ec : cutV (ls.map V.str) (some 1) none = (ls.drop 1).map V.str := by rw [List.map_drop]; exact cutV_from _ 1 hpos
      rw [ec]
      obtain ⟨G4, s4, S9, hp2⟩ := Sep.mk (o := .lst ((ls.drop 1).map V.str)) S np2
      exact q _ (ls.drop 1) _ _ _ (((s12.trans s3).trans s).trans s4) (SqL.of hp2) (by rw [List.length_drop]; omega) (fun x hx => both x (hpm.mem_iff.mp (List.mem_of_mem_drop hx))) (B.same s4) S9

end
end K43
set_option Elab.async false
set_option linter.all false
set_option maxRecDepth 100000
set_option maxHeartbeats 4000000
namespace K43
open PySem PySem.Spec PyProof.Rows L2 XL
/-! ### the other names -/
def oth (rs : Rg) (x : Str) (i : Nat) : List Int := ((rgN rs).filter fun y => !decide (y = x)).map (stg rs i)
theorem oth_eq {rs : Rg} {x : Str} {i j : Nat} : oth rs x i = oth rs x j ↔ ∀ y ∈ rgN rs, y ≠ x → stg rs i y = stg rs j y := by
  unfold oth
  constructor
  · intro h y hy ne
    have hm : y ∈ (rgN rs).filter fun y => !decide (y = x) := List.mem_filter.mpr ⟨hy, by simp [ne]⟩
    exact List.map_inj_left.mp h y hm
  · intro h
    refine List.map_congr_left fun y hy => ?_
    obtain ⟨h1, h2⟩ := List.mem_filter.mp hy
    exact h y h1 (by simpa using h2)
theorem nrms_ints : ∀ ns : List Int, nrms (ns.map PyData.int) = ns.map PyData.int
  | [] => rfl
  | n :: ns => by
    rw [List.map_cons]
    simp only [nrms, nrm, nrms_ints ns]
theorem nrm_it (ns : List Int) : nrm (itD ns) = itD ns := by
  simp only [itD, nrm, nrms_ints]
theorem keyDs_ints : ∀ ns : List Int, keyDs (ns.map PyData.int) = true
  | [] => rfl
  | n :: ns => by
    rw [List.map_cons]
    simp only [keyDs, keyD, keyDs_ints ns, Bool.and_true]
theorem it_inj {a b : List Int} (h : itD a = itD b) : a = b := by
  have e := eqv_it a b
  rw [h, eqv_it] at e
  simpa using e
theorem key_it {K : PySem.W.Frag} {G : Hp} {ns : List Int} {b : Addr} (hb : G b = some (.tup (ns.map V.int))) : KeyV K G b (itD ns) := by
  refine ⟨itD ns, dp_it hb, ?_, ?_, nrm_it ns⟩
  · simp only [itD, keyD]
    exact keyDs_ints ns
  · have h : PyData.depthAll (ns.map PyData.int) ≤ 2 := depthAll_le fun d hd => by
      obtain ⟨n, _, rfl⟩ := List.mem_map.mp hd
      simp only [PyData.depth]
      omega
    simp only [itD, PyData.depth]
    omega
def delG (G : Hp) (d : Addr) : Hp := fun b => if b = d then none else G b
theorem Sep.thaw {G H : Hp} {M : List (Addr × HO)} {d : Addr} {u : HO} (S : Sep G M H) (h : G d = some u) : Sep (delG G d) ((d, u) :: M) H := by
  have nm : ∀ p ∈ M, p.1 ≠ d := fun p hp e => by
    have z := (S.2.1 p hp).2
    rw [e, h] at z
    cases z
  refine ⟨fun b o e => ?_, fun p hp => ?_, ?_⟩
  · unfold delG at e
    split at e
    · cases e
    · exact S.1 b o e
  · rcases List.mem_cons.mp hp with rfl | hp
    · exact ⟨S.1 _ _ h, if_pos rfl⟩
    · refine ⟨(S.2.1 p hp).1, ?_⟩
      unfold delG
      rw [if_neg (nm p hp)]
      exact (S.2.1 p hp).2
  · rw [List.map_cons, List.nodup_cons]
    refine ⟨fun hm => ?_, S.2.2⟩
    obtain ⟨p, hp, e⟩ := List.mem_map.mp hm
    exact nm p hp e
theorem del_upd {G : Hp} {d : Addr} {u : HO} (h : G d = some u) : upd (delG G d) d u = G := by
  funext b
  by_cases hb : b = d
  · subst hb
    rw [upd_same, h]
  · rw [upd_ne hb]
    exact if_neg hb

section
variable {P : Program} {w : World} {K : PySem.W.Frag} {mg : Str → Option Value} {base : Heap}
/-- the needed names -/
def NeedL (rs : Rg) (val : Nat → Int) (nd : List Str) : Prop := ∀ x, x ∈ nd ↔ x ∈ rgN rs ∧ Nd rs val x
def spNeeded (K : PySem.W.Frag) : Sp := fun vs H Q _ => ∃ (G : Hp) (M : List (Addr × HO)) (D A L : Addr) (ws us : List V) (rs : Rg) (val : Nat → Int), vs = [.ref D, .ref A, .ref L] ∧ Sep G M H ∧ SqL K G D ws ∧ SqL K G A ((List.range (cnt rs)).map fun i => V.int (val i)) ∧ Paired (SA rs G) ws (List.range (cnt rs)) ∧ SqL K G L us ∧ RgsAt K G us rs ∧ RgOk rs ∧ rs.length ≤ 4 ∧ cnt rs ≤ 256 ∧
  ∀ (p : Addr) (nd : List Str) (G' H' : Hp), Same G G' → G' p = some (.lst (nd.map V.str)) → NeedL rs val nd → nd.length ≤ 4 → Sep G' M H' → Q (.ref p) H'
theorem ok_needed (T : Top K mg w) {k : Nat} : FnOk P w K mg base CX0 (k + 12) T.a_needed T.d_needed ["_law_rows", "_law_values", "_law_ranges_here"] (spNeeded K) := by
  refine T.F_needed.ok sc_needed (fun vs H Q E h => ?_) (fun cdv A outer s H vs Q E hr h => ?_)
  · obtain ⟨G, M, D, A, L, ws, us, rs, val, rfl, _⟩ := h
    rfl
  · obtain ⟨G, M, D, A, L, ws, us, rs, val, rfl, S, hD, hA, hws, hL, hus, ro, r4, c6, q⟩ := h
    refine ⟨_, (pss_cons (ps_set (i := 3) sc_needed.nd rfl (.inl rfl) (pe_lst pa_nil))
      (pss_cons (ps_for PassesOwn.never rfl (pi_listK K (xv 2)) (pg_tupK K 2 (pgs_cons (pg_name (i := 4) sc_needed.nd rfl (.inr rfl)) (pgs_cons (pg_name (i := 5) sc_needed.nd rfl (.inl rfl)) pgs_nil)))
      (pss_cons (ps_set (i := 6) sc_needed.nd rfl (.inl rfl) (pe_dnewD K w))
      (pss_one (ps_for PassesOwn.never rfl (pi_enum (by rfl) T.m_enumerate (pa_cons (xv 0) pa_nil)) (pg_tupK K 2 (pgs_cons (pg_name (i := 7) sc_needed.nd rfl (.inl rfl)) (pgs_cons (pg_name (i := 8) sc_needed.nd rfl (.inr rfl)) pgs_nil)))
      (pss_cons (ps_set (i := 9) sc_needed.nd rfl (.inl rfl) (pe_callTy (call_tupleK K) (by rfl) T.m_tuple (by decide +kernel) (pa_cons (pe_lock (pe_lc (own := [("_law_other", 10)]) (by rfl) sc_needed.nd (pi_keys (xv 8)) (blkOk_by (N := ["_law_rows", "_law_values", "_law_ranges_here", "_law_out", "_law_told", "_law_size", "_law_first", "_law_at", "_law_row", "_law_others", "_law_other"]) (sc := defScope s_needed) (by decide +kernel)) (fun _ _ _ _ _ => (pg_name (i := 10) sc_needed.nd rfl (.inl rfl))) (fun _ _ _ _ _ => (pts_one (xt_cmp (op_neLK K hr.u190) (xv 10) (xv 4) (nomark _)))) (fun _ _ _ _ _ => (pe_dget (hu_of hr) (xv 8) (xv 10) (fun _ _ => rfl))))) pa_nil)))
      (pss_one (xs_if (pt_cmp (pc_ddnotin K w hr.u9 (xv 9) (xv 6)))
      (pss_one (ps_ddput K w hr.u9 (xv 6) (xv 9) (pe_ix (ix_k K) (xv 1) (xv 7) (fun _ _ => rfl)) rfl))
      (pss_one (xs_if (PW.pt (xw_and (xt_cmp (op_neLK K hr.u190) (pe_ddget K w hr.u9 (xv 6) (xv 9) (fun _ _ => rfl)) (pe_ix (ix_k K) (xv 1) (xv 7) (fun _ _ => rfl)) (nomark _)) (pw_and1 (xt_cmp (notin_seqK K) (xv 4) (xv 3) (by rfl)))))
      (pss_one (ps_expr (pe_bmK K PySem.F.plainAttrs_list PySem.F.slot_list_append PySem.F.type_list_append mt_append (xv 3) (pa_cons (xv 4) pa_nil))))
      pss_nil)))))))))
      (pss_one (ps_ret (xv 3))))), ?_⟩
    have ul := prd_len hus
    have wl := prd_len hws
    rw [List.length_range] at wl
    have hv : ∀ {i : Nat}, i < cnt rs → atI ((List.range (cnt rs)).map fun i => V.int (val i)) (i : Nat) = some (.int (val i)) := fun {i} hi => atI_nat (by
      rw [List.getElem?_map, List.getElem?_range hi]
      rfl)
    refine ⟨sz, fun Ou nOu => ?_⟩
    have S1 := S.new (o := .lst []) nOu
    refine ⟨L, rfl, ⟨_, S1.l hL⟩, for_list (xs := us) (fun j σ H' => ∃ (G' : Hp) (nd : List Str) (y4 y5 y6 y7 y8 y9 y10 : Option V), σ = [some (.ref D), some (.ref A), some (.ref L), some (.ref Ou), y4, y5, y6, y7, y8, y9, y10] ∧ Same G G' ∧ (∀ x, x ∈ nd ↔ x ∈ rgN (rs.take j) ∧ Nd rs val x) ∧ nd.length ≤ j ∧ Sep G' ((Ou, .lst (nd.map V.str)) :: M) H') ⟨G, [], _, _, _, _, _, _, _, rfl, Same.refl _, fun x => ⟨(fun h => nomatch h), fun h => nomatch h.1⟩, Nat.le_refl _, S1⟩ (fun j σ H' _ h => ?_) (fun j x σ H' hx h => ?_) (fun σ H' h => ?_)⟩
    · obtain ⟨G2, _, _, _, _, _, _, _, _, _, s2, _, _, S2⟩ := h
      exact S2.l (same_l s2 hL)
    · obtain ⟨G2, nd, y4, y5, y6, y7, y8, y9, y10, rfl, s2, hnd, hnl, S2⟩ := h
      obtain ⟨p, hp, a, rfl, ha⟩ := prd_get hus hx
      have jl := (List.getElem?_eq_some_iff.mp hp).1
      have ht1 : rgN (rs.take (j + 1)) = rgN (rs.take j) ++ [p.1] := by
        rw [take_snoc hp]
        exact List.map_append ..
      have rok : RgOk (rs.take (j + 1)) := RgOk.left (q := rs.drop (j + 1)) (by rw [List.take_append_drop]; exact ro)
      have hxn : p.1 ∉ rgN (rs.take j) := fun hin => by
        have nd := rok.nd
        rw [ht1, List.nodup_append] at nd
        exact nd.2.2 _ hin _ List.mem_cons_self rfl
      have hxnd : p.1 ∉ nd := fun h => hxn ((hnd _).mp h).1
      refine ⟨a, _, rfl, S2.t (same_t s2 ha), rfl, _, _, rfl, _, _, rfl, rfl, fun F o0 nF d0 => ?_⟩
      have S3 := S2.new (o := o0) nF
      refine ⟨D, ws, rfl, S3.l (same_l s2 hD), for_enum (xs := ws) (fun pre σ H' => ∃ (G' : Hp) (o : HO) (kvs : List (PyData × V)) (nd' : List Str) (y7 y8 y9 y10 : Option V), σ = [some (.ref D), some (.ref A), some (.ref L), some (.ref Ou), some (.str p.1), some (.int (p.2 : Nat)), some (.ref F), y7, y8, y9, y10] ∧ Same G2 G' ∧ DD K w G' F o kvs ∧
        (∀ k v, valV kvs k = some v → ∃ i, i < pre.length ∧ i < cnt rs ∧ k = itD (oth rs p.1 i) ∧ v = .int (val i)) ∧ kvs.length ≤ pre.length ∧ ((nd' = nd ∧ ∀ i, i < pre.length → valV kvs (itD (oth rs p.1 i)) = some (.int (val i))) ∨ (nd' = nd ++ [p.1] ∧ Nd rs val p.1)) ∧
        Sep G' ((F, o) :: (Ou, .lst (nd'.map V.str)) :: M) H') ⟨G2, o0, [], nd, _, _, _, _, rfl, Same.refl _, d0 G2, (fun k v h => nomatch h), Nat.le_refl _, .inl ⟨rfl, fun i h => (nomatch h)⟩, S3⟩ (fun pre σ H' h => ?_) (fun pre x post σ H' T1 hpre h nT => ?_) (fun σ H' h => ?_)⟩
      · obtain ⟨G4, _, _, _, _, _, _, _, _, s4, _, _, _, _, S4⟩ := h
        exact S4.l (same_l (s2.trans s4) hD)
      · obtain ⟨G4, o, kvs, nd', y7, y8, y9, y10, rfl, s4, dd, hk, kl, hor, S4⟩ := h
        have hxw : ws[pre.length]? = some x := by rw [hpre]; simp
        have pl := (List.getElem?_eq_some_iff.mp hxw).1
        obtain ⟨i', hi', d, rfl, hd⟩ := prd_get hws hxw
        rw [List.getElem?_range (by omega)] at hi'
        cases hi'
        have S5 := S4.newG (o := .tup [.int (pre.length : Nat), .ref d]) nT
        have s5 := S4.grow (o := .tup [.int (pre.length : Nat), .ref d]) nT
        have hd5 := s5 _ _ (s4 _ _ (s2 _ _ hd))
        -- the other values
        refine ⟨d, _, S5.st hd5, trivial, fun od => ?_⟩
        have S6 := (Sep.thaw S5 hd5).set (o' := .frz od (.dK (dk (rgN rs) (stg rs pre.length))))
        refine ⟨d, od, rfl, .inl ⟨_, S6.hd, fun B nB => lc_it (walk_keys (kvs := dk (rgN rs) (stg rs pre.length))) (fun t H' => Sep (delG (upd G4 T1 (.tup [.int (pre.length : Nat), .ref d])) d) ((B, .lst ((((rgN rs).take t).filter fun y => !decide (y = p.1)).map fun y => V.int (stg rs pre.length y))) :: (d, .frz od (.dK (dk (rgN rs) (stg rs pre.length)))) :: (F, o) :: (Ou, .lst (nd'.map V.str)) :: M) H') (S6.new nB) (fun t H' _ S' => S'.sw.hd) (fun t v H7 H8 ht S7 y => ?_) (fun H7 S7 => ?_)⟩⟩
        · obtain ⟨rfl, k, v2, hkv, rfl⟩ := y
          unfold dk at hkv
          rw [List.getElem?_map] at hkv
          obtain ⟨y, hy, e⟩ := Option.map_eq_some_iff.mp hkv
          cases e
          have tl := (List.getElem?_eq_some_iff.mp hy).1
          have nl : (rgN rs).length = rs.length := List.length_map _
          refine ⟨rfl, ?_⟩
          show (if (!decide (y = p.1)) = true then _ else _)
          split
          · rename_i hne
            refine ⟨d, .int (stg rs pre.length y), rfl, .inl ⟨_, Sum.inr y, .inr ⟨od, S7.sw.hd⟩, rfl, (dk_val (List.mem_of_getElem? hy)).symm⟩, _, S7.hd, ?_, ?_⟩
            · rw [List.length_map]
              have h1 := List.length_filter_le (fun y => !decide (y = p.1)) ((rgN rs).take t)
              rw [List.length_take] at h1
              exact smallL (by omega)
            · rw [take_snoc hy, List.filter_append, List.map_append, List.filter_cons_of_pos (p := fun y => !decide (y = p.1)) hne, List.filter_nil]
              exact S7.set
          · rename_i hne
            rw [take_snoc hy, List.filter_append, List.filter_cons_of_neg (p := fun y => !decide (y = p.1)) hne, List.filter_nil, List.append_nil]
            exact S7
        · rw [dk_len, List.take_length] at S7
          refine ⟨S7.sw.hd, ?_⟩
          have S8 := (Sep.setAt (A := [_]) (o' := .dK (dk (rgN rs) (stg rs pre.length))) S7).sw.frz
          rw [del_upd hd5] at S8
          refine ⟨B, _, rfl, .inl ⟨SqL.of S8.hd, fun ag na => ?_⟩⟩
          have eo : (((rgN rs).filter fun y => !decide (y = p.1)).map fun y => V.int (stg rs pre.length y)) = (oth rs p.1 pre.length).map V.int := by
            unfold oth
            rw [List.map_map]
            rfl
          rw [eo]
          obtain ⟨G9, s9, S9, h9⟩ := Sep.mk (o := .tup ((oth rs p.1 pre.length).map V.int)) S8.drop na
          have s49 := s5.trans s9
          have s29 := s4.trans s49
          have hA9 := S9.l (same_l (s2.trans s29) hA)
          have kv9 := (key_it (K := K) h9).same S9.1
          have dd9 := (dd.same s49)
          have pc : pre.length < cnt rs := by omega
          have pn : (pre ++ [V.ref d]).length = pre.length + 1 := by rw [List.length_append]; rfl
          have keep : ∀ {kvs' : List (PyData × V)} {o' : HO} {nd'' : List Str} {H'' : Hp}, DD K w G9 F o' kvs' → (∀ k v, valV kvs' k = some v → ∃ i, i < pre.length + 1 ∧ i < cnt rs ∧ k = itD (oth rs p.1 i) ∧ v = .int (val i)) → kvs'.length ≤ pre.length + 1 → ((nd'' = nd ∧ ∀ i, i < pre.length + 1 → valV kvs' (itD (oth rs p.1 i)) = some (.int (val i))) ∨ (nd'' = nd ++ [p.1] ∧ Nd rs val p.1)) → Sep G9 ((F, o') :: (Ou, .lst (nd''.map V.str)) :: M) H'' →
              ∃ (G' : Hp) (o : HO) (kvs : List (PyData × V)) (nd' : List Str) (y7 y8 y9 y10' : Option V), ([some (.ref D), some (.ref A), some (.ref L), some (.ref Ou), some (.str p.1), some (.int (p.2 : Nat)), some (.ref F), some (.int (pre.length : Nat)), some (.ref d), some (.ref ag), y10] : List (Option V)) = [some (.ref D), some (.ref A), some (.ref L), some (.ref Ou), some (.str p.1), some (.int (p.2 : Nat)), some (.ref F), y7, y8, y9, y10'] ∧ Same G2 G' ∧ DD K w G' F o kvs ∧
              (∀ k v, valV kvs k = some v → ∃ i, i < (pre ++ [V.ref d]).length ∧ i < cnt rs ∧ k = itD (oth rs p.1 i) ∧ v = .int (val i)) ∧ kvs.length ≤ (pre ++ [V.ref d]).length ∧ ((nd' = nd ∧ ∀ i, i < (pre ++ [V.ref d]).length → valV kvs (itD (oth rs p.1 i)) = some (.int (val i))) ∨ (nd' = nd ++ [p.1] ∧ Nd rs val p.1)) ∧
              Sep G' ((F, o) :: (Ou, .lst (nd'.map V.str)) :: M) H'' := fun z1 z2 z3 z4 z5 => ⟨G9, _, _, _, _, _, _, _, rfl, s29, z1, by rw [pn]; exact z2, by rw [pn]; exact z3, by rw [pn]; exact z4, z5⟩
          cases hg : valV kvs (itD (oth rs p.1 pre.length)) with
          | none =>
            have hT : (!(valV kvs (itD (oth rs p.1 pre.length))).isSome) = true := by rw [hg]; rfl
            refine ⟨F, ag, o, kvs, _, rfl, rfl, S9.hd, dd9.same S9.1, kv9, _, rfl, fun _ => ?_, fun e => by rw [hT] at e; cases e⟩
            refine ⟨_, _, .inl hA9, hv pc, G9, F, ag, o, kvs, _, rfl, rfl, S9.hd, S9.1, dd9, key_it h9, smallL (by omega), fun o' d' => ?_⟩
            refine keep d' (fun k v hkv => ?_) (by have := length_putK kvs (itD (oth rs p.1 pre.length)) (.int (val pre.length)); omega) ?_ S9.set
            · rw [valV_put] at hkv
              split at hkv
              · cases hkv
                exact ⟨pre.length, by omega, pc, by assumption, rfl⟩
              · obtain ⟨i, h1, h2, h3, h4⟩ := hk k v hkv
                exact ⟨i, by omega, h2, h3, h4⟩
            · rcases hor with ⟨h1, h2⟩ | h
              · refine .inl ⟨h1, fun i hi => ?_⟩
                rw [valV_put]
                by_cases him : i = pre.length
                · rw [him, if_pos rfl]
                · have h3 := h2 i (by omega)
                  rw [if_neg fun e => by rw [e, hg] at h3; cases h3]
                  exact h3
              · exact .inr h
          | some v =>
            obtain ⟨i0, h1, h2, h3, rfl⟩ := hk _ _ hg
            have hoth := it_inj h3
            have hT : (!(valV kvs (itD (oth rs p.1 pre.length))).isSome) = false := by rw [hg]; rfl
            have hk' : ∀ k v, valV kvs k = some v → ∃ i, i < pre.length + 1 ∧ i < cnt rs ∧ k = itD (oth rs p.1 i) ∧ v = .int (val i) := fun k v hkv => by
              obtain ⟨i, h1, h2, h3, h4⟩ := hk k v hkv
              exact ⟨i, by omega, h2, h3, h4⟩
            refine ⟨F, ag, o, kvs, _, rfl, rfl, S9.hd, dd9.same S9.1, kv9, _, rfl, (fun e => by rw [hT] at e; cases e), fun _ => ?_⟩
            refine ⟨F, ag, o, kvs, _, _, rfl, rfl, S9.hd, dd9.same S9.1, kv9, hg, _, _, .inl hA9, hv pc, fun e => ?_, fun e => ?_⟩
            · have ne : ¬ val i0 = val pre.length := by simpa using e
              have hnd2 : Nd rs val p.1 := ⟨i0, pre.length, h2, pc, oth_eq.mp hoth.symm, ne⟩
              refine ⟨Ou, _, rfl, .inl (SqL.of S9.sw.hd), rfl, strs_flat _, ?_⟩
              rw [inV_str]
              refine ⟨fun e => ?_, fun e => ?_⟩
              · have hni : p.1 ∉ nd' := by simpa using e
                have hnd' : nd' = nd := by
                  rcases hor with ⟨h, _⟩ | ⟨h, _⟩
                  · exact h
                  · exact absurd (by rw [h]; simp) hni
                refine ⟨.inl ⟨rfl, _, SqL.of S9.sw.hd⟩, Ou, _, _, rfl, rfl, S9.sw.hd, by rw [List.length_map, hnd']; exact smallL (by omega), ?_⟩
                have S10 := Sep.setAt (A := [_]) (o' := .lst (nd'.map V.str ++ [.str p.1])) S9
                refine keep (nd'' := nd' ++ [p.1]) dd9 hk' (by omega) (.inr ⟨by rw [hnd'], hnd2⟩) ?_
                rw [List.map_append]
                exact S10
              · have hi : p.1 ∈ nd' := by simpa using e
                refine keep dd9 hk' (by omega) ?_ S9
                rcases hor with ⟨h, _⟩ | h
                · exact absurd (by rw [← h]; exact hi) hxnd
                · exact .inr h
            · have ee : val i0 = val pre.length := by simpa using e
              refine ⟨(fun e => nomatch e), fun _ => keep dd9 hk' (by omega) ?_ S9⟩
              rcases hor with ⟨h5, h6⟩ | h
              · refine .inl ⟨h5, fun i hi => ?_⟩
                by_cases him : i = pre.length
                · rw [him, hg, ee]
                · exact h6 i (by omega)
              · exact .inr h
      · obtain ⟨G4, o, kvs, nd', y7, y8, y9, y10, rfl, s4, dd, hk, kl, hor, S4⟩ := h
        rw [wl] at hor
        refine ⟨G4, nd', _, _, _, _, _, _, _, rfl, s2.trans s4, fun x => ?_, ?_, S4.drop⟩
        · rw [ht1, List.mem_append, List.mem_singleton]
          rcases hor with ⟨h1, h2⟩ | ⟨h1, h2⟩
          · rw [h1, hnd]
            refine ⟨fun h => ⟨.inl h.1, h.2⟩, fun h => ?_⟩
            rcases h.1 with h3 | h3
            · exact ⟨h3, h.2⟩
            · exfalso
              obtain ⟨i, i', hi, hi', hs, hne⟩ := h.2
              rw [h3] at hs
              have e1 := h2 i hi
              rw [oth_eq.mpr hs, h2 i' hi'] at e1
              have e2 : val i' = val i := by injection e1 with e1; injection e1
              exact hne e2.symm
          · rw [h1, List.mem_append, List.mem_singleton, hnd]
            refine ⟨fun h => ?_, fun h => ?_⟩
            · rcases h with h | h
              · exact ⟨.inl h.1, h.2⟩
              · exact ⟨.inr h, by rw [h]; exact h2⟩
            · rcases h.1 with h3 | h3
              · exact .inl ⟨h3, h.2⟩
              · exact .inr h3
        · rcases hor with ⟨h1, _⟩ | ⟨h1, _⟩
          · rw [h1]
            omega
          · rw [h1, List.length_append]
            exact Nat.succ_le_succ hnl
    · obtain ⟨G2, nd, y4, y5, y6, y7, y8, y9, y10, rfl, s2, hnd, hnl, S2⟩ := h
      rw [ul, List.take_length] at hnd
      exact q Ou nd _ H' (s2.trans S2.frzS) upd_same hnd (by omega) S2.frz

end
end K43
set_option Elab.async false
set_option linter.all false
set_option maxRecDepth 100000
set_option maxHeartbeats 4000000
namespace K43
open PySem PySem.Spec PyProof.Rows L2 XL
section
variable {P : Program} {w : World} {K : PySem.W.Frag} {mg : Str → Option Value} {base : Heap}
theorem okQ_number (T : Top K mg w) {k : Nat} : FnQ P w K mg base (k + 1) T.a_number T.d_number ["_law_thing"] spNumber := by
  refine okQ T.F_number sc_number (fun vs H Q E h => ?_) (fun cdv A outer s H vs Q E p hr h => ?_)
  · obtain ⟨i, rfl, _⟩ := h
    rfl
  · obtain ⟨i, rfl, q⟩ := h
    refine ⟨_, (pss_one (ps_ret (xe_and (pe_callB (call_isK K) (by rfl) T.m_isinstance (by decide +kernel) (pa_cons (xv 0) (pa_cons (pe_bltn (v := .ty "int") (by rfl) T.m_int (by decide +kernel) rfl) pa_nil))) (pe_one (xe_not (pe_callB (call_isK K) (by rfl) T.m_isinstance (by decide +kernel) (pa_cons (xv 0) (pa_cons (pe_bltn (v := .ty "bool") (by rfl) T.m_bool (by decide +kernel) rfl) pa_nil)))))))), ?_⟩
    refine ⟨_, _, _, _, true, rfl, .ty _, .base (.int _), kit_ty (by decide +kernel), fun _ => ⟨_, _, _, _, false, rfl, .ty _, .base (.int _), kit_ty (by decide +kernel), ?_⟩, fun e => nomatch e⟩
    exact q

/-! ### the pair, told -/
def spPairTold (K : PySem.W.Frag) : Sp := fun vs H Q _ => ∃ (G : Hp) (M : List (Addr × HO)) (u pv : V) (D : Addr) (ws : List V) (rs : Rg) (r : Option (Nat × Nat)), vs = [u, .ref D, pv] ∧ Sep G M H ∧ SqL K G D ws ∧ Paired (SA rs G) ws (List.range (cnt rs)) ∧ rs.length ≤ 4 ∧ Told G rs r u ∧ PairV G r pv ∧ (∀ a b, r = some (a, b) → a < cnt rs ∧ b < cnt rs) ∧
  ∀ G' H', Same G G' → Sep G' M H' → Q (.bl true) H'
theorem ok_pair_told (T : Top K mg w) {k : Nat} (G_number : FnOk P w K mg base CX0 k T.a_number T.d_number ["_law_thing"] spNumber) : FnOk P w K mg base CX0 (k + 4) T.a_pair_told T.d_pair_told ["_law_told", "_law_rows", "_law_pair"] (spPairTold K) := by
  refine T.F_pair_told.ok sc_pair_told (fun vs H Q E h => ?_) (fun cdv A outer s H vs Q E hr h => ?_)
  · obtain ⟨G, M, u, pv, D, ws, rs, r, rfl, _⟩ := h
    rfl
  · obtain ⟨G, M, u, pv, D, ws, rs, r, rfl, S, hD, hws, r4, ht, hp, hlt, q⟩ := h
    refine ⟨_, (pss_cons (xs_if (xt_cmp op_isN (xv 2) pe_non (nomark _))
      (pss_one (ps_ret (pe_cmpR op_isN (xv 0) pe_non (nomark _))))
      pss_nil)
      (pss_cons (xs_if (PW.pt (xw_or (pt_not (xt_truK K (pe_callB (call_isK K) (by rfl) T.m_isinstance (by decide +kernel) (pa_cons (xv 0) (pa_cons (pe_bltn (v := .ty "tuple") (by rfl) T.m_tuple (by decide +kernel) rfl) pa_nil))))) (pw_or1 (xt_cmp (op_neLK K hr.u190) (pe_callB (cr_lenK K) (by rfl) T.m_len (by decide +kernel) (pa_cons (xv 0) pa_nil)) pe_int (nomark _)))))
      (pss_one (ps_ret pe_bl))
      pss_nil)
      (pss_cons (ps_for PassesOwn.never rfl (pi_enumT (by rfl) T.m_enumerate (pa_cons (xv 0) pa_nil)) (pg_tupK K 2 (pgs_cons (pg_name (i := 3) sc_pair_told.nd rfl (.inl rfl)) (pgs_cons (pg_name (i := 4) sc_pair_told.nd rfl (.inl rfl)) pgs_nil)))
      (pss_cons (xs_if (PW.pt (xw_or (pt_not (xt_truK K (pe_callB (call_isK K) (by rfl) T.m_isinstance (by decide +kernel) (pa_cons (xv 4) (pa_cons (pe_bltn (v := .ty "dict") (by rfl) T.m_dict (by decide +kernel) rfl) pa_nil))))) (pw_or1 (xt_cmp (op_ne_dictA (Nat.lt_of_le_of_lt (Nat.le_add_right _ _) hr.u190)) (xv 4) (pe_ix (ix_k K) (xv 1) (pe_ix (ix_k K) (xv 2) (xv 3) (fun _ _ => rfl)) (fun _ _ => rfl)) (nomark _)))))
      (pss_one (ps_ret pe_bl))
      pss_nil)
      (pss_one (xs_if (xt_cmp (op_neLK K hr.u190) (pe_lock (pe_lc (own := [("_law_worth", 5)]) (by rfl) sc_pair_told.nd (pi_values (xv 4)) (blkOk_by (N := ["_law_told", "_law_rows", "_law_pair", "_law_at", "_law_setting", "_law_worth"]) (sc := defScope s_pair_told) (by decide +kernel)) (fun _ _ _ _ _ => (pg_name (i := 5) sc_pair_told.nd rfl (.inl rfl))) (fun _ _ _ _ _ => (pts_one (pt_not (xt_truK K (pe_call G_number (hr.mono (by omega)) (by rfl) T.g_number T.F_number.kp T.b_number .nil pass0 (pa_cons (xv 5) pa_nil)))))) (fun _ _ _ _ _ => (xv 5)))) (pe_lst pa_nil) (nomark _))
      (pss_one (ps_ret pe_bl))
      pss_nil))))
      (pss_one (ps_ret pe_bl))))), ?_⟩
    match r, ht, hp with
    | none, ht, hp =>
      cases (show u = .non from ht)
      cases (show pv = .non from hp)
      refine ⟨rfl, fun _ => ⟨rfl, ?_⟩, fun e => absurd rfl (of_decide_eq_false e)⟩
      have z := q G H (Same.refl _) S
      show Q (.bl (decide (V.non = V.non))) H
      rw [decide_eq_true rfl]
      exact z
    | some (a, b), ⟨t, d1, d2, h1, h2, h3, h4⟩, ⟨t2, k1, k2⟩ =>
      subst h1 k1
      obtain ⟨ha, hb⟩ := hlt a b rfl
      have hT := SqT.of (K := K) h2
      have hT2 := SqT.of (K := K) k2
      have wl := prd_len hws
      rw [List.length_range] at wl
      refine ⟨rfl, (fun e => nomatch (of_decide_eq_true e)), fun _ => ⟨_, _, _, _, true, rfl, .ty _, sqT_ty (S.t hT), kit_ty (by decide +kernel), ff, fun _ => ⟨_, .inr (S.t hT), (fun e => nomatch e), fun _ => ?_⟩⟩⟩
      refine ⟨t, _, rfl, S.t hT, for_enumT (xs := [.ref d1, .ref d2]) (fun k σ H' => ∃ (G' : Hp) (y3 y4 y5 : Option V), σ = [some (.ref t), some (.ref D), some (.ref t2), y3, y4, y5] ∧ Same G G' ∧ Sep G' M H') ⟨G, _, _, _, rfl, Same.refl _, S⟩ (fun k σ H' h => ?_) (fun k x σ H' T1 hx h nT => ?_) (fun σ H' h => ?_)⟩
      · obtain ⟨G2, _, _, _, _, s2, S2⟩ := h
        exact S2.t (same_t s2 hT)
      · obtain ⟨G2, y3, y4, y5, rfl, s2, S2⟩ := h
        obtain ⟨d, m, rfl, hm, hd, hmc⟩ : ∃ d m, x = .ref d ∧ [V.int (a : Nat), .int (b : Nat)][k]? = some (.int (m : Nat)) ∧ G d = some (.dK (dk (rgN rs) (stg rs m))) ∧ m < cnt rs := by
          match k, hx with
          | 0, hx =>
            cases hx
            exact ⟨d1, a, rfl, rfl, h3, ha⟩
          | 1, hx =>
            cases hx
            exact ⟨d2, b, rfl, rfl, h4, hb⟩
          | k + 2, hx => simp at hx
        have S3 := S2.newG (o := .tup [.int (k : Nat), .ref d]) nT
        have s3 := S2.grow (o := .tup [.int (k : Nat), .ref d]) nT
        have s23 := s2.trans s3
        have hd3 := s23 _ _ hd
        have hxw : ws[m]? = some ws[m] := List.getElem?_eq_getElem (by omega)
        obtain ⟨m', hm', d', ed', hd'⟩ := prd_get hws hxw
        rw [List.getElem?_range hmc] at hm'
        cases hm'
        refine ⟨_, _, _, _, true, rfl, .ty _, .base (.dK (S3.st hd3)), kit_ty (by decide +kernel), ff, fun _ => ?_⟩
        refine ⟨_, .int (m : Nat), .inr (S3.t (same_t s23 hT2)), atI_nat hm, _, .ref d', .inl (S3.l (same_l s23 hD)), atI_nat (by rw [hxw, ed']), ?_⟩
        refine ⟨d, d', _, _, rfl, rfl, S3.st hd3, S3.st (s23 _ _ hd'), rfl, fun p hp => ?_, (fun e => nomatch e), fun _ => ?_⟩
        · unfold dk at hp
          obtain ⟨y, hy, rfl⟩ := List.mem_map.mp hp
          exact ⟨dk_val hy, rfl⟩
        refine ⟨d, _, S3.st hd3, trivial, fun od => ?_⟩
        have S4 := (Sep.thaw S3 hd3).set (o' := .frz od (.dK (dk (rgN rs) (stg rs m))))
        refine ⟨d, od, _, rfl, S4.hd, fun B nB => lc_it (walk_values (kvs := dk (rgN rs) (stg rs m))) (fun t H' => Sep (delG (upd G2 T1 (.tup [.int (k : Nat), .ref d])) d) ((B, .lst []) :: (d, .frz od (.dK (dk (rgN rs) (stg rs m)))) :: M) H') (S4.new nB) (fun t H' _ S' => S'.sw.hd) (fun t v H7 H8 ht S7 y => ?_) (fun H7 S7 => ?_)⟩
        · obtain ⟨rfl, k', hkv⟩ := y
          unfold dk at hkv
          rw [List.getElem?_map] at hkv
          obtain ⟨y, hy, e⟩ := Option.map_eq_some_iff.mp hkv
          cases e
          exact ⟨rfl, _, rfl, S7⟩
        · refine ⟨S7.sw.hd, ?_⟩
          have S8 := (Sep.setAt (A := [_]) (o' := .dK (dk (rgN rs) (stg rs m))) S7).sw.frz
          rw [del_upd hd3] at S8
          refine ⟨sz, fun em nem => ?_⟩
          have S9 := S8.new (o := .lst []) nem
          refine ⟨.list [], .list [], .lst (SqL.of S9.sw.hd) .nil, .lst (SqL.of S9.hd) .nil, rfl, rfl, by decide, ?_⟩
          rw [show PyData.eqv (.list []) (.list []) = true by simp [PyData.eqv, PyData.eqvAll]]
          exact ⟨(fun e => nomatch e), fun _ => ⟨_, _, _, _, rfl, s23, S9.drop.drop⟩⟩
      · obtain ⟨G2, _, _, _, rfl, s2, S2⟩ := h
        exact q G2 H' s2 S2

end
end K43
set_option Elab.async false
set_option linter.all false
set_option maxRecDepth 100000
set_option maxHeartbeats 4000000
namespace K43
open PySem PySem.Spec PyProof.Rows L2 XL
section
variable {P : Program} {w : World} {K : PySem.W.Frag} {mg : Str → Option Value} {base : Heap}
/-! ### rows of the board as data -/
def owD (n : Int) : PyData := .tuple [.tuple [.int n]]
theorem dp_ow {K : PySem.W.Frag} {G : Hp} {v : V} {n : Int} (h : OwA G v n) : Dp K G v (owD n) := by
  obtain ⟨a, b, rfl, h1, h2⟩ := h
  exact .tup (SqT.of h1) (.cons (.tup (SqT.of h2) (.cons (.int n) .nil)) .nil)
theorem ow_sq {K : PySem.W.Frag} {G : Hp} {v : V} {n : Int} (h : OwA G v n) : ∃ r, v = .ref r ∧ ∃ ys, SqT K G r ys := by
  obtain ⟨a, b, rfl, h1, h2⟩ := h
  exact ⟨a, rfl, _, SqT.of h1⟩
/-- a row: owner, word, numbers -/
def rwD (n : Int) (wd : Str) (ns : List Int) : PyData := .tuple (owD n :: .str wd :: ns.map PyData.int)
def RwB (G : Hp) (n : Int) (wd : Str) (u : V) (ns : List Int) : Prop := ∃ t ow, u = .ref t ∧ G t = some (.tup (ow :: .str wd :: ns.map V.int)) ∧ OwA G ow n
theorem RwB.same {G G' : Hp} (e : Same G G') {n : Int} {wd : Str} {u : V} {ns : List Int} (h : RwB G n wd u ns) : RwB G' n wd u ns := let ⟨t, ow, h1, h2, h3⟩ := h; ⟨t, ow, h1, e _ _ h2, h3.same e⟩
theorem dp_rw {K : PySem.W.Frag} {G : Hp} {n : Int} {wd : Str} {u : V} {ns : List Int} (h : RwB G n wd u ns) : Dp K G u (rwD n wd ns) := by
  obtain ⟨t, ow, rfl, h1, h2⟩ := h
  exact .tup (SqT.of h1) (.cons (dp_ow h2) (.cons (.str wd) (dp_intsT ns)))
theorem rw_parts {K : PySem.W.Frag} {G : Hp} {n : Int} {wd : Str} {u : V} {ns : List Int} (h : RwB G n wd u ns) : ∃ t xs, u = V.ref t ∧ G t = some (.tup xs) ∧ ∀ x ∈ xs, (∃ r, x = .ref r ∧ ∃ ys, SqT K G r ys) ∨ (∃ i, x = .int i) ∨ ∃ z, x = .str z := by
  obtain ⟨t, ow, rfl, h1, h2⟩ := h
  refine ⟨t, _, rfl, h1, fun x hx => ?_⟩
  rcases List.mem_cons.mp hx with rfl | hx
  · exact .inl (ow_sq h2)
  · rcases List.mem_cons.mp hx with rfl | hx
    · exact .inr (.inr ⟨_, rfl⟩)
    · obtain ⟨i, _, rfl⟩ := List.mem_map.mp hx
      exact .inr (.inl ⟨_, rfl⟩)
/-- one row, or none -/
def rsD (n : Int) (wd : Str) : Option (List Int) → PyData
  | none => .list []
  | some ns => .list [rwD n wd ns]
def RsB (G : Hp) (n : Int) (wd : Str) (us : List V) : Option (List Int) → Prop
  | none => us = []
  | some ns => ∃ u, us = [u] ∧ RwB G n wd u ns
theorem RsB.same {G G' : Hp} (e : Same G G') {n : Int} {wd : Str} {us : List V} : ∀ {r : Option (List Int)}, RsB G n wd us r → RsB G' n wd us r
  | none, h => h
  | some _, ⟨u, h1, h2⟩ => ⟨u, h1, h2.same e⟩
theorem dp_rs {K : PySem.W.Frag} {G : Hp} {n : Int} {wd : Str} {us : List V} {a : Addr} (ha : G a = some (.lst us)) : ∀ {r : Option (List Int)}, RsB G n wd us r → Dp K G (.ref a) (rsD n wd r)
  | none, h => by
    rw [show us = [] from h] at ha
    exact .lst (SqL.of ha) .nil
  | some ns, ⟨u, h1, h2⟩ => by
    rw [h1] at ha
    exact .lst (SqL.of ha) (.cons (dp_rw h2) .nil)
theorem rs_parts {K : PySem.W.Frag} {G : Hp} {n : Int} {wd : Str} {us : List V} : ∀ {r : Option (List Int)}, RsB G n wd us r → ∀ u ∈ us, ∃ t xs, u = V.ref t ∧ G t = some (.tup xs) ∧ ∀ x ∈ xs, (∃ r, x = .ref r ∧ ∃ ys, SqT K G r ys) ∨ (∃ i, x = .int i) ∨ ∃ z, x = .str z
  | none, h, u, hu => by
    rw [show us = [] from h] at hu
    exact nomatch hu
  | some ns, ⟨u0, h1, h2⟩, u, hu => by
    rw [h1] at hu
    rw [List.mem_singleton.mp hu]
    exact rw_parts h2
theorem eqv_intsS : ∀ ns : List Int, PyData.eqvAll (ns.map PyData.int) (ns.map PyData.int) = true := fun ns => by
  rw [eqv_ints]
  simp
theorem rs_lay {n : Int} {wd : Str} (lt : Lt 1 8 wd) : ∀ r : Option (List Int), (rsD n wd r).canLay0 = true ∧ (rsD n wd r).depth ≤ 190 ∧ PyData.eqv (rsD n wd r) (rsD n wd r) = true
  | none => ⟨rfl, by simp [rsD, PyData.depth, PyData.depthAll], by simp [rsD, PyData.eqv, PyData.eqvAll]⟩
  | some ns => by
    have hs : PyData.canLay0 (.str wd) = true := (Fit.name lt).cl
    have hi : PyData.canLayAll0 (ns.map PyData.int) = true := layAll fun d hd => by
      obtain ⟨n, _, rfl⟩ := List.mem_map.mp hd
      rfl
    have hd : PyData.depthAll (ns.map PyData.int) ≤ 2 := depthAll_le fun d hd => by
      obtain ⟨n, _, rfl⟩ := List.mem_map.mp hd
      simp only [PyData.depth]
      omega
    refine ⟨?_, ?_, ?_⟩
    · simp only [rsD, rwD, owD, PyData.canLay0, PyData.canLayAll0, hi, Bool.and_true, Bool.true_and]
      exact hs
    · simp only [rsD, rwD, owD, PyData.depth, PyData.depthAll]
      omega
    · simp [rsD, rwD, owD, PyData.eqv, PyData.eqvAll, eqv_intsS]
def StpA (G : Hp) (u : V) (c : Int × List Int) : Prop := ∃ t sn, u = .ref t ∧ G t = some (.tup [.int c.1, .ref sn]) ∧ G sn = some (.tup (c.2.map V.int))
theorem StpA.same {G G' : Hp} (e : Same G G') {u : V} {c : Int × List Int} (h : StpA G u c) : StpA G' u c := let ⟨t, sn, h1, h2, h3⟩ := h; ⟨t, sn, h1, e _ _ h2, e _ _ h3⟩
def spAlong (K : PySem.W.Frag) (C : Addr) : Sp := fun vs H Q _ => ∃ (G : Hp) (M : List (Addr × HO)) (e de l st : Addr) (ow : V) (n : Int) (wd : Str) (us : List V) (cs : List (Int × List Int)), vs = [.ref e, ow, .str wd, .ref st] ∧ Lt 1 8 wd ∧ Sep G ((e, .ins C de [("held", .ref l)]) :: (l, .lst []) :: M) H ∧ OwA G ow n ∧ SqL K G st us ∧ Paired (StpA G) us cs ∧
  ∀ G' H', Same G G' → Sep G' M H' → Q (.bl true) H'
theorem ok_along (T : Top K mg w) {k : Nat} (G_same : FnOk P w K mg base CX0 k T.a_same T.d_same ["_law_told", "_law_due"] (spSame K)) (G_behind : FnOk P w K mg base CX0 k T.a_behind T.d_behind ["board", "entries"] (spBehind K T.C_Effects)) (G_Effects_armed : FnOk P w K mg base CX0 k T.a_Effects_armed T.d_Effects_armed ["self"] (spArmed K T.C_Effects)) (G_Effects_bring : FnOk P w K mg base CX0 k T.a_Effects_bring T.d_Effects_bring ["self", "entries"] (spBring K T.C_Effects)) :
    FnOk P w K mg base CX0 (k + 5) T.a_along T.d_along ["_law_board", "_law_owner", "_law_word", "_law_steps"] (spAlong K T.C_Effects) := by
  refine T.F_along.ok sc_along (fun vs H Q E h => ?_) (fun cdv A outer s H vs Q E hr h => ?_)
  · obtain ⟨G, M, e, de, l, st, ow, n, wd, us, cs, rfl, _⟩ := h
    rfl
  · obtain ⟨G, M, e, de, l, st, ow, n, wd, us, cs, rfl, lt, S, how, hst, hus, q⟩ := h
    refine ⟨_, (pss_cons (ps_set (i := 4) sc_along.nd rfl (.inl rfl) pe_non)
      (pss_cons (ps_for PassesOwn.never rfl (pi_listK K (xv 3)) (pg_tupK K 2 (pgs_cons (pg_name (i := 5) sc_along.nd rfl (.inl rfl)) (pgs_cons (pg_name (i := 6) sc_along.nd rfl (.inl rfl)) pgs_nil)))
      (pss_cons (ps_set (i := 7) sc_along.nd rfl (.inl rfl) (pe_lst (pa_cons (pe_tup (pa_cons (xv 1) (pa_cons (xv 2) (pa_cons (xv 5) (pa_cons (xv 6) pa_nil))))) pa_nil)))
      (xss_cut (xs_if (PW.pt (xw_or (xt_cmp op_isN (xv 4) pe_non (nomark _)) (pw_or1 (xt_cmp (op_neLK K hr.u190) (pe_ix (ix_k K) (xv 4) pe_int (fun _ _ => rfl)) (xv 6) (nomark _)))))
      (pss_one (ps_set (i := 4) sc_along.nd rfl (.inl rfl) (pe_tup (pa_cons (xv 5) (pa_cons (xv 6) pa_nil)))))
      pss_nil)
      (pss_cons (ps_expr (pe_meth (xv 0) T.cl_Effects T.me_Effects_bring G_Effects_bring (hr.mono (by omega)) T.b_Effects_bring .nil pass0 (pa_cons (xv 7) pa_nil)))
      (pss_cons (xs_if (pt_not (xt_truK K (pe_call G_same (hr.mono (by omega)) (by rfl) T.g_same T.F_same.kp T.b_same .nil pass0 (pa_cons (pe_meth0 (xv 0) T.cl_Effects T.me_Effects_armed G_Effects_armed (hr.mono (by omega)) T.b_Effects_armed .nil pass0) (pa_cons (pe_lst (pa_cons (pe_tup (pa_cons (xv 1) (pa_cons (xv 2) (pa_cons (pe_ix (ix_k K) (xv 4) pe_int (fun _ _ => rfl)) pa_nil)))) pa_nil)) pa_nil)))))
      (pss_one (ps_ret pe_bl))
      pss_nil)
      (pss_cons (ps_set (i := 8) sc_along.nd rfl (.inl rfl) (pe_lst pa_nil))
      (xss_cut (xs_if (xt_cmp (op_neLK K hr.u190) (pe_ix (ix_k K) (xv 4) pe_int (fun _ _ => rfl)) (xv 5) (nomark _))
      (pss_one (ps_set (i := 8) sc_along.nd rfl (.inl rfl) (pe_lst (pa_cons (pe_tup (pa_cons (xv 1) (pa_cons (xv 2) (pa_cons (pe_ix (ix_k K) (xv 4) pe_int (fun _ _ => rfl)) (pa_cons (xv 5) pa_nil))))) pa_nil))))
      pss_nil)
      (pss_one (xs_if (pt_not (xt_truK K (pe_call G_same (hr.mono (by omega)) (by rfl) T.g_same T.F_same.kp T.b_same .nil pass0 (pa_cons (pe_call G_behind (hr.mono (by omega)) (by rfl) T.g_behind T.F_behind.kp T.b_behind .nil pass0 (pa_cons (xv 0) (pa_cons (xv 7) pa_nil))) (pa_cons (xv 8) pa_nil)))))
      (pss_one (ps_ret pe_bl))
      pss_nil)))))))))
      (pss_one (ps_ret pe_bl)))), ?_⟩
    refine ⟨st, rfl, ⟨_, S.l hst⟩, for_list (xs := us) (fun i σ H' => ∃ (kp : Option (Int × List Int)) (kv : V) (l' : Addr) (es : List V) (G' : Hp) (y5 y6 y7 y8 : Option V), σ = [some (.ref e), some ow, some (.str wd), some (.ref st), some kv, y5, y6, y7, y8] ∧ Same G G' ∧ BdA G' n wd es kp ∧ (kp = none → kv = .non) ∧ (∀ c, kp = some c → StpA G' kv c) ∧
      Sep G' ((e, .ins T.C_Effects de [("held", .ref l')]) :: (l', .lst es) :: M) H') ⟨none, .non, l, [], G, _, _, _, _, rfl, Same.refl _, rfl, fun _ => rfl, (fun c h => nomatch h), S⟩ (fun i σ H' _ h => ?_) (fun i x σ H' hx h => ?_) (fun σ H' h => ?_)⟩
    · obtain ⟨_, _, _, _, G2, _, _, _, _, _, s2, _, _, _, S2⟩ := h
      exact S2.l (same_l s2 hst)
    · obtain ⟨kp, kv, l', es, G2, y5, y6, y7, y8, rfl, s2, hbd, hk0, hk1, S2⟩ := h
      obtain ⟨c, hc, t, sn, rfl, ht, hsn⟩ := prd_get hus hx
      refine ⟨t, _, rfl, S2.t (SqT.of (s2 _ _ ht)), rfl, _, _, rfl, _, _, rfl, rfl, sz, fun t1 nt1 => ?_⟩
      have hsn2 := s2 _ _ hsn
      have how2 := how.same s2
      obtain ⟨G3, s3, S3, h3⟩ := Sep.mk (o := .tup [ow, .str wd, .int c.1, .ref sn]) S2 nt1
      refine ⟨sz, fun z nz => ?_⟩
      obtain ⟨G4, s4, S4, h4⟩ := Sep.mk (o := .lst [.ref t1]) S3 nz
      have s24 := s3.trans s4
      have hbd4 := hbd.same s24
      have hsn4 := s24 _ _ hsn2
      have hz4 : BdA G4 n wd [.ref t1] (some c) := ⟨_, rfl, t1, ow, sn, rfl, s4 _ _ h3, how2.same s24, hsn4⟩
      refine ⟨fun σ H' => ∃ (kv' : V) (G' : Hp), σ = [some (.ref e), some ow, some (.str wd), some (.ref st), some kv', some (.int c.1), some (.ref sn), some (.ref z), y8] ∧ Same G4 G' ∧ StpA G' kv' (bdN kp c) ∧ Sep G' ((e, .ins T.C_Effects de [("held", .ref l')]) :: (l', .lst es) :: M) H', ?_, fun σ H5 h => ?_⟩
      · match kp, hk0, hk1 with
        | none, hk0, _ =>
          cases hk0 rfl
          refine ⟨rfl, fun _ => ⟨fun _ => ⟨sz, fun t2 nt2 => ?_⟩, (fun e => nomatch e)⟩, fun e => absurd rfl (of_decide_eq_false e)⟩
          obtain ⟨G5, s5, S5, h5⟩ := Sep.mk (o := .tup [.int c.1, .ref sn]) S4 nt2
          exact ⟨_, G5, rfl, s5, ⟨t2, sn, rfl, h5, s5 _ _ hsn4⟩, S5⟩
        | some d, _, hk1 =>
          obtain ⟨tk, sk, rfl, h5, h6⟩ := hk1 d rfl
          have hTk := S4.t (SqT.of (K := K) (s24 _ _ h5))
          refine ⟨rfl, (fun e => nomatch (of_decide_eq_true e)), fun _ => ⟨_, .ref sk, .inr hTk, rfl, itD d.2, itD c.2, dp_it (S4.st (s24 _ _ h6)), dp_it (S4.st hsn4), lay_it _, lay_it _, dep_it _, ?_⟩⟩
          rw [eqv_it]
          refine ⟨fun e => ⟨sz, fun t2 nt2 => ?_⟩, fun e => ?_⟩
          · have ne : ¬ d.2 = c.2 := by simpa using e
            obtain ⟨G5, s5, S5, h7⟩ := Sep.mk (o := .tup [.int c.1, .ref sn]) S4 nt2
            refine ⟨_, G5, rfl, s5, ?_, S5⟩
            rw [show bdN (some d) c = c from if_neg ne]
            exact ⟨t2, sn, rfl, h7, s5 _ _ hsn4⟩
          · have ee : d.2 = c.2 := by simpa using e
            refine ⟨_, G4, rfl, Same.refl _, ?_, S4⟩
            rw [show bdN (some d) c = d from if_pos ee]
            exact ⟨tk, sk, rfl, s24 _ _ h5, s24 _ _ h6⟩
      obtain ⟨kv', G5, rfl, s5, hkv, S5⟩ := h
      refine ⟨e, de, _, rfl, S5.hd, rfl, G5, M, e, z, de, l', es, _, n, wd, kp, c, rfl, lt, S5, hbd4.same s5, SqL.of (s5 _ _ h4), hz4.same s5, fun D l2 ds es2 G6 H6 s6 S6 hbd6 _ => ?_⟩
      have S7 := S6.drop
      refine ⟨e, de, _, rfl, S7.hd, rfl, G6, M, e, de, l2, es2, n, wd, bdN kp c, rfl, S7, hbd6, fun A u G7 H7 s7 S8 hu => ?_⟩
      obtain ⟨G8, s8, S9, hA⟩ := Sep.keep S8
      have s58 := (s6.trans s7).trans s8
      obtain ⟨tk, sk, rfl, k1, k2⟩ := hkv.same s58
      have hTk := SqT.of (K := K) k1
      have how8 := ((how2.same s24).same s5).same s58
      have hu8 := hu.same s8
      refine ⟨_, .int (bdN kp c).1, .inr (S9.t hTk), rfl, sz, fun t3 nt3 => ?_⟩
      obtain ⟨G9, s9, S10, h9⟩ := Sep.mk (o := .tup [ow, .str wd, .int (bdN kp c).1]) S9 nt3
      refine ⟨sz, fun du ndu => ?_⟩
      obtain ⟨G10, s10, S11, h10⟩ := Sep.mk (o := .lst [.ref t3]) S10 ndu
      have s810 := s9.trans s10
      have r1 : RsB G10 n wd [u] (some [(bdN kp c).1]) := by
        obtain ⟨t, ow', h1, h2, h3⟩ := hu8.same s810
        exact ⟨u, rfl, t, ow', h1, h2, h3⟩
      have r2 : RsB G10 n wd [.ref t3] (some [(bdN kp c).1]) := ⟨_, rfl, t3, ow, rfl, s10 _ _ h9, how8.same s810⟩
      have la := rs_lay (n := n) lt (some [(bdN kp c).1])
      refine ⟨G10, _, A, du, [u], rsD n wd (some [(bdN kp c).1]), rfl, S11, dp_rs (s810 _ _ hA) r1, dp_rs h10 r2, la.1, la.2.1, la.2.2, s810 _ _ hA, rs_parts r1, fun G11 H11 s11 S12 => ⟨ff, fun _ => ⟨sz, fun du2 ndu2 => ?_⟩⟩⟩
      obtain ⟨G12, s12, S13, h12⟩ := Sep.mk (o := .lst []) S12 ndu2
      have s812 := (s810.trans s11).trans s12
      have how12 := how8.same s812
      have hTk12 := same_t s812 hTk
      refine ⟨fun σ H' => ∃ (dv : Addr) (G' : Hp) (us' : List V), σ = [some (.ref e), some ow, some (.str wd), some (.ref st), some (.ref tk), some (.int c.1), some (.ref sn), some (.ref z), some (.ref dv)] ∧ Same G12 G' ∧ G' dv = some (.lst us') ∧ RsB G' n wd us' (if (bdN kp c).1 = c.1 then none else some [(bdN kp c).1, c.1]) ∧ Sep G' ((e, .ins T.C_Effects de [("held", .ref l2)]) :: (l2, .lst es2) :: M) H', ?_, fun σ H13 h => ?_⟩
      · refine ⟨_, .int (bdN kp c).1, .inr (S13.t hTk12), rfl, fun e => ?_, fun e => ?_⟩
        · have ne : ¬ (bdN kp c).1 = c.1 := by simpa using e
          refine ⟨_, .int (bdN kp c).1, .inr (S13.t hTk12), rfl, sz, fun t4 nt4 => ?_⟩
          obtain ⟨G13, s13, S14, h13⟩ := Sep.mk (o := .tup [ow, .str wd, .int (bdN kp c).1, .int c.1]) S13 nt4
          refine ⟨sz, fun du3 ndu3 => ?_⟩
          obtain ⟨G14, s14, S15, h14⟩ := Sep.mk (o := .lst [.ref t4]) S14 ndu3
          refine ⟨du3, G14, _, rfl, s13.trans s14, h14, ?_, S15⟩
          rw [if_neg ne]
          exact ⟨_, rfl, t4, ow, rfl, s14 _ _ h13, (how12.same s13).same s14⟩
        · have ee : (bdN kp c).1 = c.1 := by simpa using e
          refine ⟨du2, G12, [], rfl, Same.refl _, h12, ?_, S13⟩
          rw [if_pos ee]
          exact rfl
      obtain ⟨dv, G13, us', rfl, s13, hdv, hrs, S14⟩ := h
      have s413 := ((s5.trans s58).trans s812).trans s13
      have s613 := ((s7.trans s8).trans s812).trans s13
      refine ⟨G13, M, e, z, de, l2, es2, _, n, wd, bdN kp c, c, rfl, lt, S14, hbd6.same s613, SqL.of (s413 _ _ h4), hz4.same s413, fun B bs G15 H15 s15 S15 b1 b2 => ?_⟩
      obtain ⟨G16, s16, S16, hB⟩ := Sep.keep S15
      have s1316 := s15.trans s16
      have rb : RsB G16 n wd bs (if (bdN kp c).1 = c.1 then none else some [(bdN kp c).1, c.1]) := by
        by_cases ee : (bdN kp c).1 = c.1
        · rw [if_pos ee]
          exact b1 ee
        · rw [if_neg ee]
          obtain ⟨t, ow', h1, h2, h3⟩ := b2 ee
          exact ⟨_, h1, t, ow', rfl, s16 _ _ h2, h3.same s16⟩
      have la2 := rs_lay (n := n) lt (if (bdN kp c).1 = c.1 then none else some [(bdN kp c).1, c.1])
      refine ⟨G16, _, B, dv, bs, _, rfl, S16, dp_rs hB rb, dp_rs (s1316 _ _ hdv) (hrs.same s1316), la2.1, la2.2.1, la2.2.2, hB, rs_parts rb, fun G17 H17 s17 S17 => ⟨ff, fun _ => ?_⟩⟩
      have s617 := (s613.trans s1316).trans s17
      have s817 := ((s812.trans s13).trans s1316).trans s17
      have s217 := ((s24.trans s413).trans s1316).trans s17
      exact ⟨some (bdN kp c), _, l2, es2, G17, _, _, _, _, rfl, s2.trans s217, hbd6.same s617, (fun h => nomatch h), fun c' e => by cases e; exact ⟨tk, sk, rfl, s817 _ _ k1, s817 _ _ k2⟩, S17⟩
    · obtain ⟨_, _, _, _, G2, _, _, _, _, rfl, s2, _, _, _, S2⟩ := h
      exact q G2 H' s2 S2.drop.drop

end
end K43
set_option Elab.async false
set_option linter.all false
set_option maxRecDepth 100000
set_option maxHeartbeats 4000000
namespace K43
open PySem PySem.Spec PyProof.Rows L2 XL
section
variable {P : Program} {w : World} {K : PySem.W.Frag} {mg : Str → Option Value} {base : Heap}
/-! ### one range more, somewhere -/
theorem RgOk.perm {a b : Rg} (h : RgOk a) (p : a.Perm b) : RgOk b := ⟨((p.map _).nodup_iff).mp h.nd, fun q hq => h.sz q (p.mem_iff.mpr hq)⟩
theorem cnt_ins (rs : Rg) (i : Nat) (p : Str × Nat) : cnt (rs.take i ++ [p] ++ rs.drop i) = cnt rs * p.2 := by
  rw [cnt_app, show ([p] : Rg) = [(p.1, p.2)] from rfl, cnt_snoc, Nat.mul_assoc, Nat.mul_comm p.2, ← Nat.mul_assoc, ← cnt_app, List.take_append_drop]
theorem ins_perm (rs : Rg) (i : Nat) (p : Str × Nat) : (rs.take i ++ [p] ++ rs.drop i).Perm (p :: rs) := by
  have h : (rs.take i ++ p :: rs.drop i).Perm (p :: (rs.take i ++ rs.drop i)) := List.perm_middle
  rw [List.take_append_drop] at h
  rw [List.append_assoc]
  exact h
theorem Sep.dropN {G H : Hp} {M : List (Addr × HO)} : ∀ {N : List (Addr × HO)}, Sep G (N ++ M) H → Sep G M H
  | [], S => S
  | _ :: _, S => Sep.dropN (Sep.drop S)
theorem prd_takeT {α β : Type} {R : α → β → Prop} : ∀ {a : List α} {b : List β} (n : Nat), Paired R a b → Paired R (a.take n) (b.take n)
  | _, _, 0, _ => by rw [List.take_zero, List.take_zero]; exact .nil
  | _, _, n + 1, .nil => .nil
  | _, _, n + 1, .cons h t => .cons h (prd_takeT n t)
theorem prd_dropT {α β : Type} {R : α → β → Prop} : ∀ {a : List α} {b : List β} (n : Nat), Paired R a b → Paired R (a.drop n) (b.drop n)
  | _, _, 0, h => h
  | _, _, n + 1, .nil => .nil
  | _, _, n + 1, .cons h t => prd_dropT n t
def spTooMany (K : PySem.W.Frag) : Sp := fun vs H Q _ => ∃ (G : Hp) (M : List (Addr × HO)) (b : Addr) (o : HO) (v : V) (f : Gm) (L : Addr) (us : List V) (rs : Rg) (p : Addr) (ls : List Str), vs = [.ref b, v, .ref L, .ref p] ∧ Sep G ((b, o) :: M) H ∧ Bag G o ∧ GmAt K G v f ∧ f.ok (rgN rs) ∧ f.dep ≤ 5 ∧ (∀ z ∈ rgN rs, Lt 1 8 z) ∧ SqL K G L us ∧ RgsAt K G us rs ∧ RgOk rs ∧ rs.length ≤ 4 ∧ cnt rs ≤ 256 ∧ SqL K G p (ls.map V.str) ∧ ls.length ≤ 8 ∧ (∀ x ∈ ls, x ∈ rgN rs) ∧
  ∀ (o' : HO) (G' H' : Hp), Same G G' → Bag G' o' → Sep G' ((b, o') :: M) H' → Q (.bl true) H'
theorem ok_too_many (T : Top K mg w) (pf : PySem.XExc.PF P T.x_file) {k : Nat} (G_pick : FnOk P w K mg base CX0 k T.a_pick T.d_pick ["_law_bag_here", "_law_many"] spPick) (G_new_name : FnOk P w K mg base CX0 k T.a_new_name T.d_new_name ["_law_bag_here", "_law_used"] spNew) (H_number : FnQ P w K mg base k T.a_number T.d_number ["_law_thing"] spNumber)
    (G_parted : FnOk P w K mg base (L2.CX P w) k T.a_parted T.d_parted ["form", "ranges", "names"] (spParted K T.C_TooMany)) :
    FnOk P w K mg base CX0 (k + 5) T.a_too_many T.d_too_many ["_law_bag_here", "_law_form_here", "_law_ranges_here", "_law_listed_here"] (spTooMany K) := by
  refine T.F_too_many.ok sc_too_many (fun vs H Q E h => ?_) (fun cdv A outer s H vs Q E hr h => ?_)
  · obtain ⟨G, M, b, o, v, f, L, us, rs, p, ls, rfl, _⟩ := h
    rfl
  · obtain ⟨G, M, b, o, v, f, L, us, rs, p, ls, rfl, S, B, hf, ok, dp, lt, hL, hus, ro, r4, c6, hp, l8, sub, q⟩ := h
    refine ⟨_, (pss_cons (ps_set (i := 4) sc_too_many.nd rfl (.inl rfl) (pe_callTy (call_listK K) (by rfl) T.m_list (by decide +kernel) (pa_cons (xv 2) pa_nil)))
      (pss_cons (ps_setLc (i := 7) (own := [("_law_told", 5), ("_law_size", 6)]) (by rfl) sc_too_many.nd rfl rfl (sw_true rfl rfl rfl (by decide +kernel)) (pi_listK K (xv 2)) (blkOk_by (N := ["_law_bag_here", "_law_form_here", "_law_ranges_here", "_law_listed_here", "_law_more", "_law_told", "_law_size", "_law_used", "_law_many", "_law_step", "error"]) (sc := defScope s_too_many) (by decide +kernel)) (fun _ _ _ _ _ => (pg_tupK K 2 (pgs_cons (pg_name (i := 5) sc_too_many.nd rfl (.inl rfl)) (pgs_cons (pg_name (i := 6) sc_too_many.nd rfl (.inl rfl)) pgs_nil)))) (fun _ _ _ _ _ => pts_nil) (fun _ _ _ _ _ => (xv 5)))
      (pss_cons (ps_set (i := 8) sc_too_many.nd rfl (.inl rfl) pe_int)
      (pss_cons (ps_for PassesOwn.never rfl (pi_listK K (xv 2)) (pg_tupK K 2 (pgs_cons (pg_name (i := 5) sc_too_many.nd rfl (.inl rfl)) (pgs_cons (pg_name (i := 6) sc_too_many.nd rfl (.inl rfl)) pgs_nil)))
      (pss_one (ps_set (i := 8) sc_too_many.nd rfl (.inl rfl) (pe_op op_mulY (xv 8) (xv 6)))))
      (pss_cons (ps_for PassesOwn.never rfl (pi_range1 (by rfl) T.m_range (pa_cons pe_int pa_nil)) (pg_name (i := 9) sc_too_many.nd rfl (.inl rfl))
      (pss_one (xs_if (xt_cmp op_leY (xv 8) pe_int (nomark _))
      (pss_cons (ps_set (i := 6) sc_too_many.nd rfl (.inl rfl) (pe_op op_addY pe_int (pe_call G_pick (hr.mono (by omega)) (by rfl) T.g_pick T.F_pick.kp T.b_pick .nil pass0 (pa_cons (xv 0) (pa_cons pe_int pa_nil)))))
      (pss_cons (ps_set (i := 8) sc_too_many.nd rfl (.inl rfl) (pe_op op_mulY (xv 8) (xv 6)))
      (pss_one (ps_expr (pe_bmK K PySem.F.plainAttrs_list PySem.F.slot_list_insert PySem.F.type_list_insert mt_insert (xv 4) (pa_cons (pe_call G_pick (hr.mono (by omega)) (by rfl) T.g_pick T.F_pick.kp T.b_pick .nil pass0 (pa_cons (xv 0) (pa_cons (pe_op op_addY (pe_callB (cr_lenK K) (by rfl) T.m_len (by decide +kernel) (pa_cons (xv 4) pa_nil)) pe_int) pa_nil))) (pa_cons (pe_tup (pa_cons (pe_call G_new_name (hr.mono (by omega)) (by rfl) T.g_new_name T.F_new_name.kp T.b_new_name .nil pass0 (pa_cons (xv 0) (pa_cons (xv 7) pa_nil))) (pa_cons (xv 6) pa_nil))) pa_nil)))))))
      pss_nil)))
      (pss_cons (ps_try_as (i := 10) (Wout := fun _ _ _ _ => False) rfl rfl sc_too_many.nd rfl rfl ⟨rfl, by decide, Or.inl T.g_TooMany⟩ takes0
      (fun W pn xe tk _ => (pss_one (ps_expr (pe_callS G_parted (hr.mono (by omega)) (by rfl) T.g_parted T.F_parted.kp T.b_parted (fun σ => passAt tk σ) (pa_cons (xv 1) (pa_cons (xv 4) (pa_cons (pe_callTy (call_tupleK K) (by rfl) T.m_tuple (by decide +kernel) (pa_cons (xv 3) pa_nil)) pa_nil)))))))
      (fun a oe cls d pn hz hf => (pss_cons (xs_if (PW.pt (xw_or (pt_not (xt_truK K (pe_callQ H_number (roomQ hr (by omega)) ⟨_, List.mem_cons_self⟩ (by rfl) T.g_number T.F_number.kp T.b_number pass0 (pa_cons (pe_xf T.xf_TooMany (T.x_TooMany P pf).noN hz hf (xv 10)) pa_nil)))) (pw_or1 (xt_cmp (op_neLK K hr.u190) (pe_xf T.xf_TooMany (T.x_TooMany P pf).noN hz hf (xv 10)) (xv 8) (nomark _)))))
      (pss_one (ps_ret pe_bl))
      pss_nil)
      (pss_one (ps_ret (xe_and (pe_callB (call_isX hz hf) (by rfl) T.m_isinstance (by decide +kernel) (pa_cons (xv 10) (pa_cons (pe_glob (v := .ref T.C_ScreenError) (by rfl) T.g_ScreenError rfl) pa_nil))) (pe_one (xe_not (pe_callB (call_isX hz hf) (by rfl) T.m_isinstance (by decide +kernel) (pa_cons (xv 10) (pa_cons (pe_glob (v := .ref T.C_NoName) (by rfl) T.g_NoName rfl) pa_nil)))))))))))
      (pss_one (ps_ret pe_bl)))))))), ?_⟩
    have ul := prd_len hus
    have nl : (rgN rs).length = rs.length := List.length_map _
    refine ⟨L, us, rfl, .inl (S.l hL), fun Mo nMo => ?_⟩
    have S1 := (S.new (o := .lst us) nMo).sw
    refine ⟨L, rfl, ⟨_, S1.l hL⟩, fun U nU => lc_list (xs := us) (fun j H' => Sep G ((U, .lst (((rgN rs).take j).map V.str)) :: (b, o) :: (Mo, .lst us) :: M) H') (S1.new nU) (fun j H' _ S' => S'.l hL) (fun j x H' hx S' => ?_) (fun H2 S2 => ?_)⟩
    · obtain ⟨p1, hp1, a, rfl, ha⟩ := prd_get hus hx
      have jl := (List.getElem?_eq_some_iff.mp hp1).1
      have hn : (rgN rs)[j]? = some p1.1 := by
        rw [show rgN rs = rs.map (·.1) from rfl, List.getElem?_map, hp1]
        rfl
      refine ⟨a, _, rfl, S'.t ha, rfl, _, _, rfl, _, _, rfl, rfl, rfl, ?_⟩
      refine ⟨_, S'.hd, by rw [List.length_map, List.length_take]; exact smallL (by omega), ?_⟩
      rw [XL.take_snoc hn, List.map_append]
      exact S'.set
    rw [ul, ← nl, List.take_length] at S2
    have S3 := S2.sw
    refine ⟨L, rfl, ⟨_, S3.l hL⟩, for_list (xs := us) (fun j σ H' => ∃ (y5 y6 y9 y10 : Option V), σ = [some (.ref b), some v, some (.ref L), some (.ref p), some (.ref Mo), y5, y6, some (.ref U), some (.int (cnt (rs.take j) : Nat)), y9, y10] ∧ H' = H2) ⟨_, _, _, _, rfl, rfl⟩ (fun j σ H' _ h => ?_) (fun j x σ H' hx h => ?_) (fun σ H4 h => ?_)⟩
    · obtain ⟨_, _, _, _, _, rfl⟩ := h
      exact S3.l hL
    · obtain ⟨y5, y6, y9, y10, rfl, rfl⟩ := h
      obtain ⟨p1, hp1, a, rfl, ha⟩ := prd_get hus hx
      have sz4 := ro.sz p1 (List.mem_of_getElem? hp1)
      refine ⟨a, _, rfl, S3.t ha, rfl, _, _, rfl, _, _, rfl, rfl, ?_⟩
      refine ⟨.inr ⟨by omega, by omega⟩, some (.str p1.1), some (.int (p1.2 : Nat)), y9, y10, ?_, rfl⟩
      rw [XL.take_snoc hp1, show ([p1] : Rg) = [(p1.1, p1.2)] from rfl, cnt_snoc, Int.natCast_mul]
      rfl
    obtain ⟨y5, y6, y9, y10, rfl, rfl⟩ := h
    rw [ul, List.take_length]
    refine ⟨9, rfl, by decide, by decide, for_range (lo := 0) (n := (9 : Int).toNat) (fun i σ H' => ∃ (o' : HO) (us' : List V) (rs' : Rg) (zs : List Str) (G' : Hp) (y5 y6 y9 : Option V), σ = [some (.ref b), some v, some (.ref L), some (.ref p), some (.ref Mo), y5, y6, some (.ref U), some (.int (cnt rs' : Nat)), y9, y10] ∧ Same G G' ∧ RgsAt K G' us' rs' ∧ RgOk rs' ∧ rs'.length ≤ 4 + i ∧ (256 < cnt rs' ∨ 2 ^ i ≤ cnt rs') ∧ (∀ x, x ∈ zs ↔ x ∈ rgN rs') ∧ zs.length = rs'.length ∧ (∀ z ∈ rgN rs', Lt 1 8 z) ∧ (∀ x ∈ rgN rs, x ∈ rgN rs') ∧ Bag G' o' ∧
      Sep G' ((b, o') :: (U, .lst (zs.map V.str)) :: (Mo, .lst us') :: M) H') ⟨o, us, rs, rgN rs, G, _, _, _, rfl, Same.refl _, hus, ro, r4, .inr (by have := cnt_pos ro; omega), fun _ => Iff.rfl, nl, lt, fun _ h => h, B, S3⟩ (fun i σ H' hi h => ?_) (fun σ H' h => ?_)⟩
    · obtain ⟨o', us', rs', zs, G5, y5, y6, y9, rfl, s5, hus', ro', rl', hc, hzs, zl, hlt', hsub, B5, S5⟩ := h
      have hi9 : i < 9 := hi
      refine ⟨fun e => ?_, fun e => ?_⟩
      · have e := of_decide_eq_true e
        refine ⟨G5, _, b, o', 3, rfl, S5, B5, by decide, by decide, fun r6 o6 H6 r60 r61 B6 S6 => ?_⟩
        obtain ⟨r6', rfl⟩ := Int.eq_ofNat_of_zero_le r60
        have n2 : 2 ≤ 2 + r6' := by omega
        have n4 : 2 + r6' ≤ 4 := by omega
        have ul' := prd_len hus'
        refine ⟨.inr ⟨by omega, by omega⟩, .inl ⟨rfl, _, SqL.of (Sep.here (A := [_, _]) S6)⟩, _, .inl (SqL.of (Sep.here (A := [_, _]) S6)), ?_⟩
        refine ⟨G5, _, b, o6, (us'.length : Int) + 1, rfl, S6, B6, by omega, by omega, fun r7 o7 H7 r70 r71 B7 S7 => ?_⟩
        refine ⟨G5, _, b, o7, U, zs, rfl, S7, B7, fun z hz => hlt' z ((hzs z).mp hz), by omega, fun z o8 H8 hz hzn _ _ B8 S8 => ⟨sz, fun t2 nt2 => ?_⟩⟩
        obtain ⟨G9, s9, S9, h9⟩ := Sep.mk (o := .tup [.str z, .int ((2 + r6' : Nat) : Int)]) S8 nt2
        refine ⟨Mo, us', r7, .ref t2, rfl, rfl, Sep.here (A := [_, _]) S9, smallL (by omega), r70, by omega, ?_⟩
        have S10 := Sep.setAt (A := [_, _]) (o' := .lst (us'.take r7.toNat ++ [.ref t2] ++ us'.drop r7.toNat)) S9
        have hpm := ins_perm rs' r7.toNat (z, 2 + r6')
        have hzn' : z ∉ rgN rs' := fun h => hzn ((hzs z).mpr h)
        have hnm : ∀ x, x ∈ rgN (rs'.take r7.toNat ++ [(z, 2 + r6')] ++ rs'.drop r7.toNat) ↔ x = z ∨ x ∈ rgN rs' := fun x => by
          rw [show (x ∈ rgN (rs'.take r7.toNat ++ [(z, 2 + r6')] ++ rs'.drop r7.toNat)) = (x ∈ (rs'.take r7.toNat ++ [(z, 2 + r6')] ++ rs'.drop r7.toNat).map (·.1)) from rfl, (hpm.map (·.1)).mem_iff, List.map_cons, List.mem_cons]
          exact Iff.rfl
        have cpos := cnt_pos ro'
        refine ⟨o8, _, rs'.take r7.toNat ++ [(z, 2 + r6')] ++ rs'.drop r7.toNat, zs ++ [z], G9, y5, some (.int ((2 + r6' : Nat) : Int)), some (.int (0 + (i : Nat))), ?_, s5.trans s9, ?_, ?_, ?_, ?_, fun x => ?_, ?_, fun x hx => ?_, fun x hx => ?_, B8.same s9, S10⟩
        · rw [cnt_ins, Int.natCast_mul]
          rfl
        · have h := rgs_same s9 hus'
          exact prd_app ((prd_takeT _ h).snoc ⟨t2, rfl, SqT.of h9⟩) (prd_dropT _ h)
        · refine RgOk.perm (a := (z, 2 + r6') :: rs') ⟨List.nodup_cons.mpr ⟨hzn', ro'.nd⟩, fun q hq => ?_⟩ hpm.symm
          rcases List.mem_cons.mp hq with rfl | hq
          · exact ⟨by show 1 ≤ 2 + r6'; omega, n4⟩
          · exact ro'.sz q hq
        · rw [hpm.length_eq, List.length_cons]
          omega
        · rw [cnt_ins]
          rcases hc with h | h
          · omega
          · refine .inr ?_
            rw [Nat.pow_succ]
            exact Nat.mul_le_mul h n2
        · rw [hnm, List.mem_append, List.mem_singleton, hzs]
          exact Or.comm
        · rw [hpm.length_eq, List.length_append, List.length_cons, zl]
          rfl
        · rcases (hnm x).mp hx with h | h
          · rw [h]
            exact hz
          · exact hlt' x h
        · exact (hnm x).mpr (.inr (hsub x hx))
      · have e := of_decide_eq_false e
        exact ⟨o', us', rs', zs, G5, _, _, _, rfl, s5, hus', ro', by omega, .inl (by omega), hzs, zl, hlt', hsub, B5, S5⟩
    · obtain ⟨o', us', rs', zs, G5, y5, y6, y9, rfl, s5, hus', ro', rl', hc, hzs, zl, hlt', hsub, B5, S5⟩ := h
      have rl13 : rs'.length ≤ 13 := rl'
      have big : 256 < cnt rs' := by
        rcases hc with h | h
        · exact h
        · exact Nat.lt_of_lt_of_le (by decide) h
      have S6 := (Sep.pull (A := [_, _]) S5).frz.sw.drop
      have s6 := (Sep.pull (A := [_, _]) S5).frzS
      have hMo : SqL K (upd G5 Mo (.lst us')) Mo us' := SqL.of upd_same
      generalize upd G5 Mo (.lst us') = G6 at S6 s6 hMo
      have s06 := s5.trans s6
      refine ⟨p, _, rfl, .inl ⟨S6.l (same_l s06 hp), fun tp ntp => ?_⟩⟩
      obtain ⟨G7, s7, S7, h7⟩ := Sep.mk (o := .tup (ls.map V.str)) S6 ntp
      have s07 := s06.trans s7
      refine ⟨G7, _, v, f, Mo, us', rs', tp, ls, rfl, S7, ⟨hf.same' s07, gm_ok hsub ok, dp, hlt', same_l s7 hMo, rgs_same (s6.trans s7) hus', ro', by omega, SqT.of h7, by omega, fun x hx => hsub x (sub x hx)⟩, fun _ => ?_, fun h => by omega⟩
      intro G8 H8 N dd s8 S8 ndd
      have S9 := S8.newG (o := .xd [("count", .int (cnt rs' : Nat))]) ndd
      have s9 := S8.grow (o := .xd [("count", .int (cnt rs' : Nat))]) ndd
      have hd9 : (upd G8 dd (.xd [("count", .int (cnt rs' : Nat))])) dd = some (.xd [("count", .int (cnt rs' : Nat))]) := upd_same
      generalize upd G8 dd (.xd [("count", .int (cnt rs' : Nat))]) = G9 at S9 s9 hd9
      refine ⟨true, T.em_TooMany_TooMany, fun _ a na => ?_, tt⟩
      have hd10 := S9.st hd9
      refine ⟨rfl, rfl, dd, _, _, rfl, hd10, lk_eq, _, rfl, ⟨ff, fun _ => ⟨rfl, rfl, dd, _, _, rfl, hd10, lk_eq, ?_⟩⟩⟩
      refine ⟨fun e => by simp at e, fun _ => ?_⟩
      refine ⟨T.C_TooMany, dd, _, true, rfl, rfl, hd10, T.xc_TooMany, .inl ⟨_, _, rfl, fun u r => r, T.ky_TooMany_ScreenError⟩, fun _ => ?_, (fun e => nomatch e)⟩
      refine ⟨T.C_TooMany, dd, _, false, rfl, rfl, hd10, T.xc_TooMany, .inl ⟨_, _, rfl, fun u r => r, T.ki_TooMany_NoName⟩, ?_⟩
      exact q o' G9 _ (s07.trans (s8.trans s9)) (B5.same ((s6.trans s7).trans (s8.trans s9))) (Sep.dropN S9)

end
end K43
set_option Elab.async false
set_option linter.all false
set_option maxRecDepth 100000
set_option maxHeartbeats 4000000
namespace K43
open PySem PySem.Spec PyProof.Rows L2 XL
theorem gm_congr {ns : List Str} {e e' : Str → Int} (h : ∀ y ∈ ns, e y = e' y) : ∀ {f : Gm}, f.ok ns → f.val e = f.val e'
  | .is _, _ => rfl
  | .get x, k => h x k
  | .sum a b, k => by simp only [Gm.val, gm_congr h k.1, gm_congr h k.2]
  | .same a b, k => by simp only [Gm.val, gm_congr h k.1, gm_congr h k.2]
  | .pick a b c, k => by simp only [Gm.val, gm_congr h k.1, gm_congr h k.2.1, gm_congr h k.2.2]
theorem kys_eq {rs : Rg} {ls : List Str} {i j : Nat} : kys rs ls i = kys rs ls j ↔ ∀ y ∈ ls, stg rs i y = stg rs j y := List.map_inj_left
theorem none_iff {rs : Rg} (ro : RgOk rs) {f : Gm} (ok : f.ok (rgN rs)) {ls nd : List Str} (sub : ∀ x ∈ ls, x ∈ rgN rs) (hn : NeedL rs (fun i => f.val (stg rs i)) nd) {r : Option (Nat × Nat)} (hr : FirstPr (cnt rs) (Bd rs ls fun i => f.val (stg rs i)) r) :
    r = none ↔ nd.filter (fun x => !decide (x ∈ ls)) = [] := by
  rw [List.filter_eq_nil_iff]
  constructor
  · rintro rfl x hx
    have hx2 := ((hn x).mp hx)
    obtain ⟨i, j, hi, hj, hs, hv⟩ := hx2.2
    by_cases hxl : x ∈ ls
    · simp [hxl]
    exfalso
    have hk : kys rs ls i = kys rs ls j := kys_eq.mpr fun y hy => hs y (sub y hy) fun e => hxl (e ▸ hy)
    rcases Nat.lt_trichotomy i j with h | h | h
    · exact hr i j h hj ⟨hk, hv⟩
    · exact hv (by rw [h])
    · exact hr j i h hi ⟨hk.symm, fun e => hv e.symm⟩
  · intro h
    have hall : ∀ x ∈ rgN rs, Nd rs (fun i => f.val (stg rs i)) x → x ∈ ls := fun x hx hd => by
      have z := h x ((hn x).mpr ⟨hx, hd⟩)
      simpa using z
    match r, hr with
    | none, _ => rfl
    | some (a, b), hr =>
      exfalso
      exact hr.2.2.1.2 (nd_enough (val := fun i => f.val (stg rs i)) ro (fun i j _ _ e => gm_congr e ok) hall (Nat.lt_trans hr.1 hr.2.1) hr.2.1 (kys_eq.mp hr.2.2.1.1))
/-- ranges as data -/
def rgD (rs : Rg) : PyData := .list (rs.map fun p => .tuple [.str p.1, .int (p.2 : Nat)])
theorem dp_rgs {K : PySem.W.Frag} {G : Hp} : ∀ {us : List V} {rs : Rg}, RgsAt K G us rs → DpAll K G us (rs.map fun p => .tuple [.str p.1, .int (p.2 : Nat)])
  | _, _, .nil => .nil
  | _, _, .cons ⟨a, h1, h2⟩ t => by
    rw [h1]
    exact .cons (.tup h2 (.cons (.str _) (.cons (.int _) .nil))) (dp_rgs t)
theorem rg_lay {rs : Rg} (lt : ∀ z ∈ rgN rs, Lt 1 8 z) : (rgD rs).canLay0 = true ∧ (rgD rs).depth ≤ 190 ∧ PyData.eqv (rgD rs) (rgD rs) = true := by
  refine ⟨?_, ?_, ?_⟩
  · simp only [rgD, PyData.canLay0]
    exact layAll fun d hd => by
      obtain ⟨p, hp, rfl⟩ := List.mem_map.mp hd
      have h : PyData.canLay0 (.str p.1) = true := (Fit.name (lt p.1 (List.mem_map_of_mem (f := fun p : Str × Nat => p.1) hp))).cl
      simp only [PyData.canLay0, PyData.canLayAll0, Bool.and_true]
      exact h
  · have h : PyData.depthAll (rs.map fun p => PyData.tuple [.str p.1, .int (p.2 : Nat)]) ≤ 10 := depthAll_le fun d hd => by
      obtain ⟨p, hp, rfl⟩ := List.mem_map.mp hd
      simp only [PyData.depth, PyData.depthAll]
      omega
    simp only [rgD, PyData.depth]
    omega
  · simp only [rgD, PyData.eqv]
    clear lt
    induction rs with
    | nil => simp [PyData.eqvAll]
    | cons p r ih =>
      simp only [List.map_cons, PyData.eqvAll, ih, Bool.and_true]
      simp [PyData.eqv, PyData.eqvAll]
/-! ### what the law holds -/
structure LwN (K : PySem.W.Frag) (G : Hp) (L N : Addr) (us : List V) (rs : Rg) : Prop where
  hL : SqL K G L us
  hus : RgsAt K G us rs
  ro : RgOk rs
  rne : rs ≠ []
  r4 : rs.length ≤ 4
  c6 : cnt rs ≤ 256
  lt : ∀ z ∈ rgN rs, Lt 1 8 z
  hN : G N = some (.lst ((rgN rs).map V.str))
theorem LwN.same {K : PySem.W.Frag} {G G' : Hp} (e : Same G G') {L N : Addr} {us : List V} {rs : Rg} (h : LwN K G L N us rs) : LwN K G' L N us rs := ⟨same_l e h.hL, rgs_same e h.hus, h.ro, h.rne, h.r4, h.c6, h.lt, e _ _ h.hN⟩
abbrev valF (rs : Rg) (f : Gm) : Nat → Int := fun i => f.val (stg rs i)
structure LwV (K : PySem.W.Frag) (G : Hp) (D A : Addr) (v : V) (ws : List V) (rs : Rg) (f : Gm) : Prop where
  hf : GmAt K G v f
  ok : f.ok (rgN rs)
  dp : f.dep ≤ 5
  hD : SqL K G D ws
  hws : Paired (SA rs G) ws (List.range (cnt rs))
  hA : SqL K G A ((List.range (cnt rs)).map fun i => V.int (valF rs f i))
theorem LwV.same {K : PySem.W.Frag} {G G' : Hp} (e : Same G G') {D A : Addr} {v : V} {ws : List V} {rs : Rg} {f : Gm} (h : LwV K G D A v ws rs f) : LwV K G' D A v ws rs f := ⟨h.hf.same' e, h.ok, h.dp, same_l e h.hD, prd_imp (fun _ _ => SA.same e) h.hws, same_l e h.hA⟩
structure LwL (K : PySem.W.Frag) (G : Hp) (pn pl : Addr) (rs : Rg) (f : Gm) (nd ls : List Str) : Prop where
  hnd : G pn = some (.lst (nd.map V.str))
  need : NeedL rs (valF rs f) nd
  ndl : nd.length ≤ 4
  hls : SqL K G pl (ls.map V.str)
  lsl : ls.length ≤ 8
  sub : ∀ x ∈ ls, x ∈ rgN rs
theorem LwL.same {K : PySem.W.Frag} {G G' : Hp} (e : Same G G') {pn pl : Addr} {rs : Rg} {f : Gm} {nd ls : List Str} (h : LwL K G pn pl rs f nd ls) : LwL K G' pn pl rs f nd ls := ⟨e _ _ h.hnd, h.need, h.ndl, same_l e h.hls, h.lsl, h.sub⟩
theorem ky_same {rs : Rg} {ls : List Str} {Ga Gb : Hp} {ks : List V} {n : Nat} (e : Same Ga Gb) (h : Paired (KyA rs ls Ga) ks (List.range n)) : Paired (KyA rs ls Gb) ks (List.range n) := prd_imp (fun u i h => by
  obtain ⟨t, h1, h2⟩ := h
  exact ⟨t, h1, e _ _ h2⟩) h
theorem pv_same {G G' : Hp} (e : Same G G') {r : Option (Nat × Nat)} {u : V} (h : PairV G r u) : PairV G' r u := by
  match r, h with
  | none, h => exact h
  | some (a, b), ⟨t, h1, h2⟩ => exact ⟨t, h1, e _ _ h2⟩

section
variable {P : Program} {w : World} {K : PySem.W.Frag} {mg : Str → Option Value} {base : Heap}
end
end K43
set_option Elab.async false
set_option linter.all false
set_option maxRecDepth 100000
set_option maxHeartbeats 4000000
namespace K43
open PySem PySem.Spec PyProof.Rows L2 XL
section
variable {P : Program} {w : World} {K : PySem.W.Frag} {mg : Str → Option Value} {base : Heap}
/-! ### the law -/
def spLaw (K : PySem.W.Frag) : Sp := fun vs H Q _ => ∃ (a : Addr) (ns : List Int), vs = [.ref a] ∧ SqL K H a (ns.map V.int) ∧ ns.length ≤ 63 ∧ ∀ H', Q (.bl true) H'
theorem ok_law (T : Top K mg w) {k : Nat} (G_bag : FnOk P w K mg base CX0 k T.a_bag T.d_bag ["_law_script"] (spBag K)) (G_pick : FnOk P w K mg base CX0 k T.a_pick T.d_pick ["_law_bag_here", "_law_many"] spPick) (G_ranges : FnOk P w K mg base CX0 k T.a_ranges T.d_ranges ["_law_bag_here"] (spRanges K))
    (G_drawn_form : FnOk P w K mg base CX0 k T.a_drawn_form T.d_drawn_form ["_law_bag_here", "_law_names"] (spDrawn K)) (G_law_settings : FnOk P w K mg base CX0 k T.a_law_settings T.d_law_settings ["_law_ranges_here"] (spSettings K)) (G_value : FnOk P w K mg base CX0 k T.a_value T.d_value ["_law_form_here", "_law_worths"] (spValue K 5))
    (G_needed : FnOk P w K mg base CX0 k T.a_needed T.d_needed ["_law_rows", "_law_values", "_law_ranges_here"] (spNeeded K)) (G_listed : FnOk P w K mg base CX0 k T.a_listed T.d_listed ["_law_bag_here", "_law_names", "_law_need"] (spListed K)) (G_first_pair : FnOk P w K mg base CX0 k T.a_first_pair T.d_first_pair ["_law_rows", "_law_values", "_law_keys"] (spFirst K))
    (G_parted : FnOk P w K mg base (L2.CX P w) k T.a_parted T.d_parted ["form", "ranges", "names"] (spParted K T.C_TooMany)) (G_pair_told : FnOk P w K mg base CX0 k T.a_pair_told T.d_pair_told ["_law_told", "_law_rows", "_law_pair"] (spPairTold K)) (G_new_name : FnOk P w K mg base CX0 k T.a_new_name T.d_new_name ["_law_bag_here", "_law_used"] spNew)
    (G_along : FnOk P w K mg base CX0 k T.a_along T.d_along ["_law_board", "_law_owner", "_law_word", "_law_steps"] (spAlong K T.C_Effects)) (G_too_many : FnOk P w K mg base CX0 k T.a_too_many T.d_too_many ["_law_bag_here", "_law_form_here", "_law_ranges_here", "_law_listed_here"] (spTooMany K)) (G_same : FnOk P w K mg base CX0 k T.a_same T.d_same ["_law_told", "_law_due"] (spSame K)) (G_behind : FnOk P w K mg base CX0 k T.a_behind T.d_behind ["board", "entries"] (spBehind K T.C_Effects))
    (G_Effects_bring : FnOk P w K mg base CX0 k T.a_Effects_bring T.d_Effects_bring ["self", "entries"] (spBring K T.C_Effects)) (G_Effects_init : FnOk P w K mg base CX0 k T.a_Effects_init T.d_Effects_init ["self"] (spEInit T.C_Effects)) :
    FnOk P w K mg base CX0 (k + 3) T.a_law T.d_law ["_law_script"] (spLaw K) := by
  refine T.F_law.ok sc_law (fun vs H Q E h => ?_) (fun cdv A outer s0 H vs Q E hr h => ?_)
  · obtain ⟨a, ns, rfl, _⟩ := h
    rfl
  · obtain ⟨a, ns, rfl, h1, hl, q⟩ := h
    refine ⟨_, (pss_cons (ps_set (i := 1) sc_law.nd rfl (.inl rfl) (pe_call G_bag (hr.mono (by omega)) (by rfl) T.g_bag T.F_bag.kp T.b_bag .nil pass0 (pa_cons (xv 0) pa_nil)))
      (pss_cons (ps_set (i := 2) sc_law.nd rfl (.inl rfl) (pe_call G_ranges (hr.mono (by omega)) (by rfl) T.g_ranges T.F_ranges.kp T.b_ranges .nil pass0 (pa_cons (xv 1) pa_nil)))
      (xss_cut (ps_setLc (i := 4) (own := [("_law_told", 3), ("_law_size", 20)]) (by rfl) sc_law.nd rfl rfl (sw_true rfl rfl rfl (by decide +kernel)) (pi_listK K (xv 2)) (blkOk_by (N := ["_law_script", "_law_bag_here", "_law_ranges_here", "_law_told", "_law_names", "_law_form_here", "_law_rows", "_law_values", "_law_need", "_law_listed_here", "_law_keys", "_law_pair", "_law_given", "_law_word", "_law_owner", "_law_steps", "_law_step", "_law_at", "_law_board", "_law_entries", "_law_size", "_law_row"]) (sc := defScope s_law) (by decide +kernel)) (fun _ _ _ _ _ => (pg_tupK K 2 (pgs_cons (pg_name (i := 3) sc_law.nd rfl (.inl rfl)) (pgs_cons (pg_name (i := 20) sc_law.nd rfl (.inl rfl)) pgs_nil)))) (fun _ _ _ _ _ => pts_nil) (fun _ _ _ _ _ => (xv 3)))
      (pss_cons (ps_set (i := 5) sc_law.nd rfl (.inr rfl) (pe_call G_drawn_form (hr.mono (by omega)) (by rfl) T.g_drawn_form T.F_drawn_form.kp T.b_drawn_form .nil pass0 (pa_cons (xv 1) (pa_cons (xv 4) pa_nil))))
      (pss_cons (ps_set (i := 6) sc_law.nd rfl (.inl rfl) (pe_call G_law_settings (hr.mono (by omega)) (by rfl) T.g_law_settings T.F_law_settings.kp T.b_law_settings .nil pass0 (pa_cons (xv 2) pa_nil)))
      (xss_cut (ps_setLc (i := 7) (own := [("_law_row", 21)]) (by rfl) sc_law.nd rfl rfl (sw_true rfl rfl rfl (by decide +kernel)) (pi_listK K (xv 6)) (blkOk_by (N := ["_law_script", "_law_bag_here", "_law_ranges_here", "_law_told", "_law_names", "_law_form_here", "_law_rows", "_law_values", "_law_need", "_law_listed_here", "_law_keys", "_law_pair", "_law_given", "_law_word", "_law_owner", "_law_steps", "_law_step", "_law_at", "_law_board", "_law_entries", "_law_size", "_law_row"]) (sc := defScope s_law) (by decide +kernel)) (fun _ _ _ _ _ => (pg_name (i := 21) sc_law.nd rfl (.inl rfl))) (fun _ _ _ _ _ => pts_nil) (fun _ _ _ _ _ => (pe_call G_value (hr.mono (by omega)) (by rfl) T.g_value T.F_value.kp T.b_value .nil pass0 (pa_cons (xv 5) (pa_cons (xv 21) pa_nil)))))
      (pss_cons (ps_set (i := 8) sc_law.nd rfl (.inl rfl) (pe_call G_needed (hr.mono (by omega)) (by rfl) T.g_needed T.F_needed.kp T.b_needed .nil pass0 (pa_cons (xv 6) (pa_cons (xv 7) (pa_cons (xv 2) pa_nil)))))
      (pss_cons (ps_set (i := 9) sc_law.nd rfl (.inr rfl) (pe_call G_listed (hr.mono (by omega)) (by rfl) T.g_listed T.F_listed.kp T.b_listed .nil pass0 (pa_cons (xv 1) (pa_cons (xv 4) (pa_cons (xv 8) pa_nil)))))
      (xss_cut (ps_setLc (i := 10) (own := [("_law_row", 21)]) (by rfl) sc_law.nd rfl rfl (sw_true rfl rfl rfl (by decide +kernel)) (pi_listK K (xv 6)) (blkOk_by (N := ["_law_script", "_law_bag_here", "_law_ranges_here", "_law_told", "_law_names", "_law_form_here", "_law_rows", "_law_values", "_law_need", "_law_listed_here", "_law_keys", "_law_pair", "_law_given", "_law_word", "_law_owner", "_law_steps", "_law_step", "_law_at", "_law_board", "_law_entries", "_law_size", "_law_row"]) (sc := defScope s_law) (by decide +kernel)) (fun _ _ _ _ _ => (pg_name (i := 21) sc_law.nd rfl (.inr rfl))) (fun _ _ _ _ _ => pts_nil) (fun _ _ _ _ _ => (pe_callTy (call_tupleK K) (by rfl) T.m_tuple (by decide +kernel) (pa_cons (pe_lc (own := [("_law_told", 3)]) (by rfl) sc_law.nd (pi_listK K (xv 9)) (blkOk_by (N := ["_law_script", "_law_bag_here", "_law_ranges_here", "_law_told", "_law_names", "_law_form_here", "_law_rows", "_law_values", "_law_need", "_law_listed_here", "_law_keys", "_law_pair", "_law_given", "_law_word", "_law_owner", "_law_steps", "_law_step", "_law_at", "_law_board", "_law_entries", "_law_size", "_law_row"]) (sc := _) (by with_unfolding_all rfl)) (fun _ _ _ _ _ => (pg_name (i := 3) sc_law.nd rfl (.inl rfl))) (fun _ _ _ _ _ => pts_nil) (fun _ _ _ _ _ => (pe_dget (hu_of hr) (xv 21) (xv 3) (fun _ _ => rfl)))) pa_nil))))
      (pss_cons (ps_set (i := 11) sc_law.nd rfl (.inl rfl) (pe_call G_first_pair (hr.mono (by omega)) (by rfl) T.g_first_pair T.F_first_pair.kp T.b_first_pair .nil pass0 (pa_cons (xv 6) (pa_cons (xv 7) (pa_cons (xv 10) pa_nil)))))
      (xss_cut (xs_if (xt_cmp (op_neLK K hr.u190) (pe_cmpR op_isN (xv 11) pe_non (nomark _)) (pe_cmpR (op_eqLK K hr.u190) (pe_lc (own := [("_law_told", 3)]) (by rfl) sc_law.nd (pi_listK K (xv 8)) (blkOk_by (N := ["_law_script", "_law_bag_here", "_law_ranges_here", "_law_told", "_law_names", "_law_form_here", "_law_rows", "_law_values", "_law_need", "_law_listed_here", "_law_keys", "_law_pair", "_law_given", "_law_word", "_law_owner", "_law_steps", "_law_step", "_law_at", "_law_board", "_law_entries", "_law_size", "_law_row"]) (sc := defScope s_law) (by decide +kernel)) (fun _ _ _ _ _ => (pg_name (i := 3) sc_law.nd rfl (.inl rfl))) (fun _ _ _ _ _ => (pts_one (xt_cmp (notin_seqK K) (xv 3) (xv 9) (by rfl)))) (fun _ _ _ _ _ => (xv 3))) (pe_lst pa_nil) (nomark _)) (nomark _))
      (pss_one (ps_ret pe_bl))
      pss_nil)
      (pss_cons (ps_set (i := 12) sc_law.nd rfl (.inl rfl) (pe_callTy (call_listK K) (by rfl) T.m_list (by decide +kernel) (pa_cons (xv 2) pa_nil)))
      (pss_cons (ps_set (i := 3) sc_law.nd rfl (.inl rfl) (pe_call G_parted (hr.mono (by omega)) (by rfl) T.g_parted T.F_parted.kp T.b_parted .nil passL (pa_cons (xv 5) (pa_cons (xv 12) (pa_cons (pe_callTy (call_tupleK K) (by rfl) T.m_tuple (by decide +kernel) (pa_cons (xv 9) pa_nil)) pa_nil)))))
      (pss_cons (xs_if (PW.pt (xw_or (pt_not (xt_truK K (pe_call G_pair_told (hr.mono (by omega)) (by rfl) T.g_pair_told T.F_pair_told.kp T.b_pair_told .nil pass0 (pa_cons (xv 3) (pa_cons (xv 6) (pa_cons (xv 11) pa_nil)))))) (pw_or1 (xt_cmp (op_neLK K hr.u190) (xv 12) (xv 2) (nomark _)))))
      (pss_one (ps_ret pe_bl))
      pss_nil)
      (pss_cons (ps_set (i := 13) sc_law.nd rfl (.inl rfl) (pe_call G_new_name (hr.mono (by omega)) (by rfl) T.g_new_name T.F_new_name.kp T.b_new_name .nil pass0 (pa_cons (xv 1) (pa_cons (pe_lst pa_nil) pa_nil))))
      (pss_cons (ps_set (i := 14) sc_law.nd rfl (.inl rfl) (pe_tup (pa_cons (pe_tup (pa_cons (pe_op op_addY pe_int (pe_call G_pick (hr.mono (by omega)) (by rfl) T.g_pick T.F_pick.kp T.b_pick .nil pass0 (pa_cons (xv 1) (pa_cons pe_int pa_nil)))) pa_nil)) pa_nil)))
      (pss_cons (ps_set (i := 15) sc_law.nd rfl (.inl rfl) (pe_lst pa_nil))
      (xss_cut (ps_for PassesOwn.never rfl (pi_range1 (by rfl) T.m_range (pa_cons (pe_op op_addY pe_int (pe_call G_pick (hr.mono (by omega)) (by rfl) T.g_pick T.F_pick.kp T.b_pick .nil pass0 (pa_cons (xv 1) (pa_cons pe_int pa_nil)))) pa_nil)) (pg_name (i := 16) sc_law.nd rfl (.inl rfl))
      (pss_cons (ps_set (i := 17) sc_law.nd rfl (.inl rfl) (pe_call G_pick (hr.mono (by omega)) (by rfl) T.g_pick T.F_pick.kp T.b_pick .nil pass0 (pa_cons (xv 1) (pa_cons (pe_callB (cr_lenK K) (by rfl) T.m_len (by decide +kernel) (pa_cons (xv 6) pa_nil)) pa_nil))))
      (pss_one (ps_expr (pe_bmK K PySem.F.plainAttrs_list PySem.F.slot_list_append PySem.F.type_list_append mt_append (xv 15) (pa_cons (pe_tup (pa_cons (pe_ix (ix_k K) (xv 7) (xv 17) (fun _ _ => rfl)) (pa_cons (pe_ix (ix_k K) (xv 10) (xv 17) (fun _ _ => rfl)) pa_nil))) pa_nil))))))
      (pss_cons (xs_if (pt_not (xt_truK K (pe_call G_along (hr.mono (by omega)) (by rfl) T.g_along T.F_along.kp T.b_along .nil pass0 (pa_cons (pe_make0 T.mk_Effects G_Effects_init (hr.mono (by omega)) (by rfl) T.g_Effects T.b_Effects_init .nil pass0) (pa_cons (xv 14) (pa_cons (xv 13) (pa_cons (xv 15) pa_nil)))))))
      (pss_one (ps_ret pe_bl))
      pss_nil)
      (xss_cut (xs_if (PW.pt (xw_and (xt_cmp (op_eqLK K hr.u190) (pe_call G_pick (hr.mono (by omega)) (by rfl) T.g_pick T.F_pick.kp T.b_pick .nil pass0 (pa_cons (xv 1) (pa_cons pe_int pa_nil))) pe_int (nomark _)) (pw_and1 (pt_not (xt_truK K (pe_call G_too_many (hr.mono (by omega)) (by rfl) T.g_too_many T.F_too_many.kp T.b_too_many .nil pass0 (pa_cons (xv 1) (pa_cons (xv 5) (pa_cons (xv 2) (pa_cons (xv 9) pa_nil))))))))))
      (pss_one (ps_ret pe_bl))
      pss_nil)
      (pss_cons (xs_if (xt_cmp op_isN (xv 11) pe_non (nomark _))
      (pss_one (ps_ret pe_bl))
      pss_nil)
      (pss_cons (ps_set (i := 18) sc_law.nd rfl (.inl rfl) (pe_make0 T.mk_Effects G_Effects_init (hr.mono (by omega)) (by rfl) T.g_Effects T.b_Effects_init .nil pass0))
      (pss_cons (ps_expr (pe_meth (xv 18) T.cl_Effects T.me_Effects_bring G_Effects_bring (hr.mono (by omega)) T.b_Effects_bring .nil pass0 (pa_cons (pe_lst (pa_cons (pe_tup (pa_cons (xv 14) (pa_cons (xv 13) (pa_cons (pe_ix (ix_k K) (xv 7) (pe_ix (ix_k K) (xv 11) pe_int (fun _ _ => rfl)) (fun _ _ => rfl)) (pa_cons (pe_ix (ix_k K) (xv 10) (pe_ix (ix_k K) (xv 11) pe_int (fun _ _ => rfl)) (fun _ _ => rfl)) pa_nil))))) pa_nil)) pa_nil)))
      (pss_cons (ps_set (i := 19) sc_law.nd rfl (.inl rfl) (pe_lst (pa_cons (pe_tup (pa_cons (xv 14) (pa_cons (xv 13) (pa_cons (pe_ix (ix_k K) (xv 7) (pe_ix (ix_k K) (xv 11) pe_int (fun _ _ => rfl)) (fun _ _ => rfl)) (pa_cons (pe_ix (ix_k K) (xv 10) (pe_ix (ix_k K) (xv 11) pe_int (fun _ _ => rfl)) (fun _ _ => rfl)) pa_nil))))) pa_nil)))
      (pss_cons (xs_if (pt_not (xt_truK K (pe_call G_same (hr.mono (by omega)) (by rfl) T.g_same T.F_same.kp T.b_same .nil pass0 (pa_cons (pe_meth (xv 18) T.cl_Effects T.me_Effects_bring G_Effects_bring (hr.mono (by omega)) T.b_Effects_bring .nil pass0 (pa_cons (pe_callTy (call_listK K) (by rfl) T.m_list (by decide +kernel) (pa_cons (xv 19) pa_nil)) pa_nil)) (pa_cons (pe_lst pa_nil) pa_nil)))))
      (pss_one (ps_ret pe_bl))
      pss_nil)
      (pss_one (ps_ret (pe_call G_same (hr.mono (by omega)) (by rfl) T.g_same T.F_same.kp T.b_same .nil pass0 (pa_cons (pe_call G_behind (hr.mono (by omega)) (by rfl) T.g_behind T.F_behind.kp T.b_behind .nil pass0 (pa_cons (xv 18) (pa_cons (xv 19) pa_nil))) (pa_cons (pe_lst (pa_cons (pe_tup (pa_cons (xv 14) (pa_cons (xv 13) (pa_cons (pe_ix (ix_k K) (xv 7) (pe_ix (ix_k K) (xv 11) pe_int (fun _ _ => rfl)) (fun _ _ => rfl)) (pa_cons (pe_ix (ix_k K) (xv 7) (pe_ix (ix_k K) (xv 11) pe_int (fun _ _ => rfl)) (fun _ _ => rfl)) pa_nil))))) pa_nil)) pa_nil)))))))))))))))))))))))))))))), ?_⟩
    refine ⟨H, [], a, ns, rfl, sep0, h1, hl, fun b o G1 H1 _ B1 S1 => ?_⟩
    refine ⟨G1, _, b, o, rfl, S1, B1, fun L us rs o2 G2 H2 _ hL hus ro rne r4 c6 lt B2 S2 => ?_⟩
    have ul := prd_len hus
    have cp := cnt_pos ro
    have nl : (rgN rs).length = rs.length := List.length_map _
    -- the names
    refine ⟨fun σ H' => ∃ (N : Addr) (G : Hp), σ = [some (.ref a), some (.ref b), some (.ref L), none, some (.ref N), none, none, none, none, none, none, none, none, none, none, none, none, none, none, none, none, none] ∧ Bag G o2 ∧ LwN K G L N us rs ∧ Sep G [(b, o2)] H', ?_, fun σ H3 h => ?_⟩
    · refine ⟨L, rfl, ⟨_, S2.l hL⟩, fun N nN => lc_list (xs := us) (fun j H' => Sep G2 ((N, .lst (((rgN rs).take j).map V.str)) :: [(b, o2)]) H') (S2.new nN) (fun j H' _ S' => S'.l hL) (fun j x H' hx S' => ?_) (fun H3 S3 => ?_)⟩
      · obtain ⟨p1, hp1, a, rfl, ha⟩ := prd_get hus hx
        have jl := (List.getElem?_eq_some_iff.mp hp1).1
        have hn : (rgN rs)[j]? = some p1.1 := by
          rw [show rgN rs = rs.map (·.1) from rfl, List.getElem?_map, hp1]
          rfl
        refine ⟨a, _, rfl, S'.t ha, rfl, _, _, rfl, _, _, rfl, rfl, rfl, ?_⟩
        refine ⟨_, S'.hd, by rw [List.length_map, List.length_take]; exact smallL (by omega), ?_⟩
        rw [XL.take_snoc hn, List.map_append]
        exact S'.set
      · rw [ul, ← nl, List.take_length] at S3
        obtain ⟨G3, s3, S4, hN⟩ := Sep.keep S3
        exact ⟨N, G3, rfl, B2.same s3, ⟨same_l s3 hL, rgs_same s3 hus, ro, rne, r4, c6, lt, hN⟩, S4⟩
    obtain ⟨N, G3, rfl, B3, ln, S4⟩ := h
    have hne : rgN rs ≠ [] := fun e => rne (by
      have z := congrArg List.length e
      rw [nl] at z
      exact List.length_eq_zero_iff.mp z)
    refine ⟨G3, _, b, o2, N, rgN rs, rfl, S4, B3, ln.hN, hne, by omega, lt, fun v f o4 G4 H4 s4 hf ok dp B4 S5 => ?_⟩
    refine ⟨G4, _, L, us, rs, rfl, S5, same_l s4 ln.hL, rgs_same s4 ln.hus, ro, by omega, c6, fun D ws G5 H5 s5 hD hws S6 => ?_⟩
    have wl := prd_len hws
    rw [List.length_range] at wl
    have ln5 := ln.same (s4.trans s5)
    -- the values
    refine ⟨fun σ H' => ∃ (A : Addr) (G : Hp), σ = [some (.ref a), some (.ref b), some (.ref L), none, some (.ref N), some v, some (.ref D), some (.ref A), none, none, none, none, none, none, none, none, none, none, none, none, none, none] ∧ Bag G o4 ∧ LwN K G L N us rs ∧ LwV K G D A v ws rs f ∧ Sep G [(b, o4)] H', ?_, fun σ H6 h => ?_⟩
    · refine ⟨D, rfl, ⟨_, S6.l hD⟩, fun A nA => lc_list (xs := ws) (fun j H' => Sep G5 ((A, .lst ((List.range j).map fun i => V.int (valF rs f i))) :: [(b, o4)]) H') (S6.new nA) (fun j H' _ S' => S'.l hD) (fun j x H' hx S' => ⟨rfl, ?_⟩) (fun H7 S7 => ?_)⟩
      · have jl := (List.getElem?_eq_some_iff.mp hx).1
        obtain ⟨j', hj', d, rfl, hd⟩ := prd_get hws hx
        rw [List.getElem?_range (by omega)] at hj'
        cases hj'
        refine ⟨v, f, d, rgN rs, stg rs j, rfl, (hf.same' s5).same' S'.1, ok, dp, S'.st hd, ?_⟩
        refine ⟨_, S'.hd, by rw [List.length_map, List.length_range]; exact smallL (by omega), ?_⟩
        rw [List.range_succ, List.map_append]
        exact S'.set
      · rw [wl] at S7
        obtain ⟨G6, s6, S8, hA0⟩ := Sep.keep S7
        exact ⟨A, G6, rfl, (B4.same s5).same s6, ln5.same s6, ⟨hf.same' (s5.trans s6), ok, dp, same_l s6 hD, prd_imp (fun _ _ => SA.same s6) hws, SqL.of hA0⟩, S8⟩
    obtain ⟨A, G6, rfl, B6, ln6, lv6, S8⟩ := h
    refine ⟨G6, _, D, A, L, ws, us, rs, valF rs f, rfl, S8, lv6.hD, lv6.hA, lv6.hws, ln6.hL, ln6.hus, ro, r4, c6, fun pn nd G7 H7 s7 hnd hneed ndl S9 => ?_⟩
    have ln7 := ln6.same s7
    refine ⟨G7, _, b, o4, N, pn, rgN rs, nd, rfl, S9, B6.same s7, ln7.hN, hnd, by omega, ndl, fun x hx => ((hneed x).mp hx).1, lt, fun pl ls o8 G8 H8 s8 hls lsl lsub B8 S10 => ?_⟩
    have ln8 := ln7.same s8
    have lv8 := lv6.same (s7.trans s8)
    have ll8 : LwL K G8 pn pl rs f nd ls := ⟨s8 _ _ hnd, hneed, ndl, hls, lsl, lsub⟩
    -- the keys
    refine ⟨fun σ H' => ∃ (Kc : Addr) (ks : List V) (G : Hp), σ = [some (.ref a), some (.ref b), some (.ref L), none, some (.ref N), some v, some (.ref D), some (.ref A), some (.ref pn), some (.ref pl), some (.ref Kc), none, none, none, none, none, none, none, none, none, none, none] ∧ Same G8 G ∧ SqL K G Kc ks ∧ Paired (KyA rs ls G) ks (List.range (cnt rs)) ∧ Sep G [(b, o8)] H', ?_, fun σ H9 h => ?_⟩
    · refine ⟨D, rfl, ⟨_, S10.l lv8.hD⟩, fun Kc nK => lc_list (xs := ws) (fun j H' => ∃ (ks : List V) (G' : Hp), Same G8 G' ∧ Paired (KyA rs ls G') ks (List.range j) ∧ Sep G' ((Kc, .lst ks) :: [(b, o8)]) H') ⟨[], G8, Same.refl _, .nil, S10.new nK⟩ (fun j H' _ h => ?_) (fun j x H' hx h => ⟨rfl, ?_⟩) (fun H9 h => ?_)⟩
      · obtain ⟨_, G9, s9, _, S9⟩ := h
        exact S9.l (same_l s9 lv8.hD)
      · obtain ⟨ks, G9, s9, hks, S9⟩ := h
        have kl := prd_len hks
        rw [List.length_range] at kl
        have jl := (List.getElem?_eq_some_iff.mp hx).1
        obtain ⟨j', hj', d, rfl, hd⟩ := prd_get lv8.hws hx
        rw [List.getElem?_range (by omega)] at hj'
        cases hj'
        have hd9 := s9 _ _ hd
        refine ⟨pl, rfl, ⟨_, S9.l (same_l s9 hls)⟩, fun C nC => lc_list (xs := ls.map V.str) (fun t H' => Sep G9 ((C, .lst ((ls.take t).map fun x => V.int (stg rs j x))) :: (Kc, .lst ks) :: [(b, o8)]) H') (S9.new nC) (fun t H' _ S' => S'.l (same_l s9 hls)) (fun t y H' hy0 S' => ⟨rfl, ?_⟩) (fun H11 S11 => ?_)⟩
        · rw [List.getElem?_map] at hy0
          obtain ⟨y, hy, rfl⟩ := Option.map_eq_some_iff.mp hy0
          have tl := (List.getElem?_eq_some_iff.mp hy).1
          have hget : DGet H' d (.str y) (some (.int (stg rs j y))) := dk_get (S'.st hd9) (lsub y (List.mem_of_getElem? hy))
          refine ⟨d, _, rfl, hget, _, S'.hd, by rw [List.length_map, List.length_take]; exact smallL (by omega), ?_⟩
          rw [XL.take_snoc hy, List.map_append]
          exact S'.set
        · rw [List.length_map, List.take_length] at S11
          have ek : (ls.map fun x => V.int (stg rs j x)) = (kys rs ls j).map V.int := by
            unfold kys
            rw [List.map_map]
            rfl
          rw [ek] at S11
          refine ⟨C, _, rfl, .inl ⟨SqL.of S11.hd, fun ag na => ?_⟩⟩
          obtain ⟨G10, s10, S12, hag⟩ := Sep.mk (o := .tup ((kys rs ls j).map V.int)) S11.drop na
          refine ⟨ks, S12.hd, smallL (by omega), ks ++ [.ref ag], G10, s9.trans s10, ?_, S12.set⟩
          rw [List.range_succ]
          exact (ky_same s10 hks).snoc ⟨ag, rfl, hag⟩
      · obtain ⟨ks, G9, s9, hks, S11⟩ := h
        rw [wl] at hks
        obtain ⟨G10, s10, S12, hKc0⟩ := Sep.keep S11
        exact ⟨Kc, ks, G10, rfl, s9.trans s10, SqL.of hKc0, ky_same s10 hks, S12⟩
    obtain ⟨Kc, ks, G9, rfl, s9, hKc, hks, S11⟩ := h
    have ln9 := ln8.same s9
    have lv9 := lv8.same s9
    have ll9 := ll8.same s9
    have B9 := B8.same s9
    refine ⟨G9, _, D, A, Kc, ws, [], ks, rs, ls, valF rs f, rfl, S11, lv9.hD, lv9.hA, hKc, wl, c6, hks, fun r u G10 H10 hr s10 S12 hpv => ?_⟩
    have hv : ∀ {i : Nat}, i < cnt rs → atI ((List.range (cnt rs)).map fun i => V.int (valF rs f i)) (i : Nat) = some (.int (valF rs f i)) := fun {i} hi => atI_nat (by
      rw [List.getElem?_map, List.getElem?_range hi]
      rfl)
    have hk : ∀ {i : Nat}, i < cnt rs → ∃ t, atI ks (i : Nat) = some (.ref t) ∧ G9 t = some (.tup ((kys rs ls i).map V.int)) := fun {i} hi => by
      have hl := prd_len hks
      rw [List.length_range] at hl
      have hx : ks[i]? = some ks[i] := List.getElem?_eq_getElem (by omega)
      obtain ⟨j, hj, t, h1, h2⟩ := prd_get hks hx
      rw [List.getElem?_range hi] at hj
      cases hj
      rw [h1] at hx
      exact ⟨t, atI_nat hx, h2⟩
    -- none just where all needed names are on the list
    have ll10 := ll9.same s10
    refine ⟨fun σ H' => ∃ (G : Hp), σ = [some (.ref a), some (.ref b), some (.ref L), none, some (.ref N), some v, some (.ref D), some (.ref A), some (.ref pn), some (.ref pl), some (.ref Kc), some u, none, none, none, none, none, none, none, none, none, none] ∧ Same G10 G ∧ Sep G [(b, o8)] H', ?_, fun σ H12 h => ?_⟩
    · refine ⟨rfl, pn, rfl, ⟨_, SqL.of (S12.st ll10.hnd)⟩, fun C nC => lc_list (xs := nd.map V.str) (fun t H' => Sep G10 ((C, .lst (((nd.take t).filter fun x => !decide (x ∈ ls)).map V.str)) :: [(b, o8)]) H') (S12.new nC) (fun t H' _ S' => SqL.of (S'.st ll10.hnd)) (fun t y H' hy0 S' => ⟨rfl, ?_⟩) (fun H11 S11 => ?_)⟩
      · rw [List.getElem?_map] at hy0
        obtain ⟨y, hy, rfl⟩ := Option.map_eq_some_iff.mp hy0
        have tl := (List.getElem?_eq_some_iff.mp hy).1
        refine ⟨pl, _, rfl, .inl (S'.l ll10.hls), rfl, strs_flat _, ?_⟩
        rw [inV_str]
        show (if (!decide (y ∈ ls)) = true then _ else _)
        split
        · rename_i hne2
          refine ⟨_, S'.hd, ?_, ?_⟩
          · rw [List.length_map]
            have h1 := List.length_filter_le (fun x => !decide (x ∈ ls)) (nd.take t)
            rw [List.length_take] at h1
            exact smallL (by omega)
          · rw [XL.take_snoc hy, List.filter_append, List.map_append, List.filter_cons_of_pos (p := fun x => !decide (x ∈ ls)) hne2, List.filter_nil]
            exact S'.set
        · rename_i hne2
          rw [XL.take_snoc hy, List.filter_append, List.filter_cons_of_neg (p := fun x => !decide (x ∈ ls)) hne2, List.filter_nil, List.append_nil]
          exact S'
      · rw [List.length_map, List.take_length] at S11
        refine ⟨sz, fun em nem => ?_⟩
        have S13 := S11.new (o := .lst []) nem
        have lay := lay_ls (ns := nd.filter fun x => !decide (x ∈ ls)) fun z hz => lt z ((hneed z).mp (List.mem_filter.mp hz).1).1
        refine ⟨lsD (nd.filter fun x => !decide (x ∈ ls)), .list [], dp_ls (SqL.of S13.sw.hd), .lst (SqL.of S13.hd) .nil, lay.1, rfl, lay.2, ?_⟩
        rw [eqv_nil]
        have hni := none_iff ro ok lsub hneed hr
        have hc : decide (u = V.non) = (nd.filter fun x => !decide (x ∈ ls)).isEmpty := by
          match r, hpv with
          | none, hpv =>
            cases (show u = .non from hpv)
            rw [hni.mp rfl]
            rfl
          | some (pa, pb), ⟨t, h1, h2⟩ =>
            rw [h1]
            have hf0 : (nd.filter fun x => !decide (x ∈ ls)) ≠ [] := fun e => nomatch (hni.mpr e)
            rw [decide_eq_false (fun e => nomatch e)]
            cases hq : nd.filter fun x => !decide (x ∈ ls) with
            | nil => exact absurd hq hf0
            | cons _ _ => rfl
        refine ⟨fun e => ?_, fun _ => ⟨G10, rfl, Same.refl _, S13.drop.drop⟩⟩
        exfalso
        rw [hc] at e
        simp at e
    obtain ⟨G11, rfl, s11, S14⟩ := h
    have s911 := s10.trans s11
    have ln11 := ln9.same s911
    have lv11 := lv9.same s911
    have ll11 := ll9.same s911
    have hpv11 := pv_same s11 hpv
    refine ⟨L, us, rfl, .inl (S14.l ln11.hL), fun gv ngv => ?_⟩
    obtain ⟨G12, s12, S15, hgv⟩ := Sep.mk (o := .lst us) S14 ngv
    refine ⟨pl, _, rfl, .inl ⟨S15.l (same_l s12 ll11.hls), fun tp ntp => ?_⟩⟩
    obtain ⟨G13, s13, S16, htp⟩ := Sep.mk (o := .tup (ls.map V.str)) S15 ntp
    have s113 := s12.trans s13
    have lv13 := lv11.same s113
    have ln13 := ln11.same s113
    refine ⟨G13, _, v, f, gv, us, rs, tp, ls, rfl, S16, ⟨lv13.hf, ok, dp, lt, SqL.of (s13 _ _ hgv), ln13.hus, ro, by omega, SqT.of htp, by omega, lsub⟩, fun h => by omega, fun _ r' tv G14 H14 hr' s14 S17 htold => ?_⟩
    have er : r' = r := hr'.one hr
    subst er
    have s114 := s113.trans s14
    have ln14 := ln11.same s114
    have lv14 := lv11.same s114
    refine ⟨G14, _, tv, u, D, ws, rs, r', rfl, S17, lv14.hD, lv14.hws, r4, htold, pv_same s114 hpv11, fun pa pb e => by subst e; exact ⟨Nat.lt_trans hr.1 hr.2.1, hr.2.1⟩, fun G15 H15 s15 S18 => ⟨ff, fun _ => ?_⟩⟩
    have s1315 := s14.trans s15
    have ln15 := ln14.same s15
    have lay := rg_lay lt
    have hus15 := rgs_same S18.1 ln15.hus
    refine ⟨rgD rs, rgD rs, .lst (S18.l (SqL.of (s1315 _ _ (s13 _ _ hgv)))) (dp_rgs hus15), .lst (S18.l ln15.hL) (dp_rgs hus15), lay.1, lay.1, lay.2.1, ?_⟩
    rw [lay.2.2]
    refine ⟨(fun e => nomatch e), fun _ => ?_⟩
    refine ⟨sz, fun em nem => ?_⟩
    have B15 := (B9.same s911).same (s114.trans s15)
    refine ⟨G15, _, b, o8, em, [], rfl, (S18.new (o := .lst []) nem).sw, B15, (fun _ h => nomatch h), by decide, fun wd o16 H16 hwd _ _ _ B16 S19 => ?_⟩
    refine ⟨G15, _, b, o16, 15, rfl, S19.sw.drop, B16, by decide, by decide, fun r17 o17 H17 _ _ B17 S20 => ⟨sz, fun t1 nt1 => ⟨sz, fun t2 nt2 => ?_⟩⟩⟩
    obtain ⟨G16, s16, S21, ht1⟩ := Sep.mk (o := .tup [.int (1 + r17)]) S20 nt1
    obtain ⟨G17, s17, S22, ht2⟩ := Sep.mk (o := .tup [.ref t1]) S21 nt2
    have how : OwA G17 (.ref t2) (1 + r17) := ⟨t2, t1, rfl, ht2, s17 _ _ ht1⟩
    have s1517 := s16.trans s17
    have s917 := ((s911.trans s114).trans s15).trans s1517
    have B18 := B17.same s1517
    refine ⟨sz, fun St nSt => ?_⟩
    have S23 := (S22.new (o := .lst []) nSt).sw
    have lv17 := lv9.same s917
    -- the steps
    refine ⟨fun σ H' => ∃ (o' : HO) (us' : List V) (cs : List (Int × List Int)) (G' : Hp) (y16 y17 : Option V), σ = [some (.ref a), some (.ref b), some (.ref L), some tv, some (.ref N), some v, some (.ref D), some (.ref A), some (.ref pn), some (.ref pl), some (.ref Kc), some u, some (.ref gv), some (.str wd), some (.ref t2), some (.ref St), y16, y17, none, none, none, none] ∧ Same G17 G' ∧ SqL K G' St us' ∧ Paired (StpA G') us' cs ∧ Bag G' o' ∧ Sep G' [(b, o')] H', ?_, fun σ H24 h => ?_⟩
    · refine ⟨G17, _, b, o17, 14, rfl, S23, B18, by decide, by decide, fun r18 o18 H18 r180 r181 B19 S24 => ⟨_, rfl, by omega, by omega, for_range (lo := 0) (n := (1 + r18).toNat) (fun i σ H' => ∃ (o' : HO) (us' : List V) (cs : List (Int × List Int)) (G' : Hp) (y16 y17 : Option V), σ = [some (.ref a), some (.ref b), some (.ref L), some tv, some (.ref N), some v, some (.ref D), some (.ref A), some (.ref pn), some (.ref pl), some (.ref Kc), some u, some (.ref gv), some (.str wd), some (.ref t2), some (.ref St), y16, y17, none, none, none, none] ∧ Same G17 G' ∧ us'.length ≤ i ∧ Paired (StpA G') us' cs ∧ Bag G' o' ∧ Sep G' ((b, o') :: [(St, .lst us')]) H') ⟨o18, [], [], G17, _, _, rfl, Same.refl _, Nat.le_refl _, .nil, B19, S24⟩ (fun i σ H' hi h => ?_) (fun σ H' h => ?_)⟩⟩
      · obtain ⟨o', us', cs, G19, y16, y17, rfl, s19, hul, hus', B20, S25⟩ := h
        refine ⟨_, .inl (S25.l (same_l s19 lv17.hD)), G19, _, b, o', (ws.length : Int), rfl, S25, B20, by omega, by omega, fun r20 o20 H20 r200 r201 B21 S26 => ?_⟩
        obtain ⟨k20, rfl⟩ := Int.eq_ofNat_of_zero_le r200
        have hk20 : k20 < cnt rs := by omega
        obtain ⟨kt, hkt, hkg⟩ := hk hk20
        have s919 := s917.trans s19
        refine ⟨.inl ⟨rfl, _, SqL.of S26.sw.hd⟩, _, .int (valF rs f k20), .inl (S26.l (same_l s919 lv9.hA)), hv hk20, _, .ref kt, .inl (S26.l (same_l s919 hKc)), hkt, sz, fun t3 nt3 => ?_⟩
        obtain ⟨G20, s20, S27, h27⟩ := Sep.mk (o := .tup [.int (valF rs f k20), .ref kt]) S26 nt3
        have S28 := Sep.setAt (A := [(b, o20)]) (o' := .lst (us' ++ [.ref t3])) S27
        refine ⟨St, _, _, rfl, rfl, S27.sw.hd, smallL (by omega), ?_⟩
        have S28 : Sep G20 ((b, o20) :: [(St, .lst (us' ++ [.ref t3]))]) _ := S28
        refine ⟨o20, us' ++ [.ref t3], cs ++ [(valF rs f k20, kys rs ls k20)], G20, some (.int (0 + (i : Nat))), some (.int (k20 : Nat)), rfl, s19.trans s20, by rw [List.length_append]; exact Nat.succ_le_succ hul, (prd_imp (fun _ _ => StpA.same s20) hus').snoc ⟨t3, kt, rfl, h27, s20 _ _ (s919 _ _ hkg)⟩, B21.same s20, S28⟩
      · obtain ⟨o', us', cs, G19, y16, y17, rfl, s19, hul, hus', B20, S25⟩ := h
        obtain ⟨G20, s20, S26, hSt⟩ := Sep.keep S25.sw
        exact ⟨o', us', cs, G20, _, _, rfl, s19.trans s20, SqL.of hSt, prd_imp (fun _ _ => StpA.same s20) hus', B20.same s20, S26⟩
    obtain ⟨o24, us', cs, G24, y16, y17, rfl, s24, hSt, hus', B24, S25⟩ := h
    refine fun x dx nx ndx hnx => ⟨G24, _, x, dx, rfl, S25.new2 (o := .ins T.C_Effects dx []) (u := .own x) nx ndx hnx, fun l0 H25 S26 => ⟨rfl, ?_⟩⟩
    refine ⟨G24, _, x, dx, l0, St, .ref t2, 1 + r17, wd, us', cs, rfl, hwd, S26, how.same s24, hSt, hus', fun G26 H26 s26 S27 => ⟨ff, fun _ => ?_⟩⟩
    have S28 := S27.drop
    have s1726 := s24.trans s26
    have s926 := s917.trans s1726
    -- too many settings
    refine ⟨fun σ H' => ∃ (o' : HO) (G' : Hp), σ = [some (.ref a), some (.ref b), some (.ref L), some tv, some (.ref N), some v, some (.ref D), some (.ref A), some (.ref pn), some (.ref pl), some (.ref Kc), some u, some (.ref gv), some (.str wd), some (.ref t2), some (.ref St), y16, y17, none, none, none, none] ∧ Same G26 G' ∧ Bag G' o' ∧ Sep G' [(b, o')] H', ?_, fun σ H27 h => ?_⟩
    · have ln26 := ln9.same s926
      have lv26 := lv9.same s926
      have ll26 := ll9.same s926
      refine ⟨G26, _, b, o24, 4, rfl, S28, B24.same s26, by decide, by decide, fun r27 o27 H27 _ _ B27 S29 => ⟨fun e => ?_, fun e => ⟨(fun e => nomatch e), fun _ => ⟨o27, G26, rfl, Same.refl _, B27, S29⟩⟩⟩⟩
      refine ⟨G26, [], b, o27, v, f, L, us, rs, pl, ls, rfl, S29, B27, lv26.hf, ok, dp, lt, ln26.hL, ln26.hus, ro, r4, c6, ll26.hls, lsl, lsub, fun o28 G28 H28 s28 B28 S30 => ⟨ff, fun _ => ⟨o28, G28, rfl, s28, B28, S30⟩⟩⟩
    obtain ⟨o27, G27, rfl, s27, B27, S29⟩ := h
    have s927 := s926.trans s27
    have lv27 := lv9.same s927
    have hKc27 := same_l s927 hKc
    have how27 := how.same (s1726.trans s27)
    have hpv27 := pv_same ((((s11.trans s114).trans s15).trans s1517).trans (s1726.trans s27)) hpv
    match r', hr, hpv27 with
    | none, _, hpv27 =>
      cases (show u = .non from hpv27)
      exact ⟨rfl, fun _ => q _, fun e => absurd rfl (of_decide_eq_false e)⟩
    | some (pa, pb), hr, ⟨tu, eu, htu⟩ =>
      subst eu
      have hpb := hr.2.1
      have hpa := Nat.lt_trans hr.1 hr.2.1
      have hkey : kys rs ls pa = kys rs ls pb := hr.2.2.1.1
      have hval : valF rs f pa ≠ valF rs f pb := hr.2.2.1.2
      obtain ⟨ka, hka, hga⟩ := hk hpa
      obtain ⟨kb, hkb, hgb⟩ := hk hpb
      refine ⟨rfl, (fun e => nomatch (of_decide_eq_true e)), fun _ => ?_⟩
      refine fun x dx nx ndx hnx => ⟨G27, _, x, dx, rfl, S29.new2 (o := .ins T.C_Effects dx []) (u := .own x) nx ndx hnx, fun l0 H28 S30 => ⟨rfl, ?_⟩⟩
      have hT := SqT.of (K := K) htu
      refine ⟨x, dx, _, rfl, S30.hd, rfl, _, .int (pa : Nat), .inr (S30.t hT), at0, _, .int (valF rs f pa), .inl (S30.l lv27.hA), hv hpa, _, .int (pa : Nat), .inr (S30.t hT), at0, _, .ref ka, .inl (S30.l hKc27), hka, sz, fun t4 nt4 => ?_⟩
      obtain ⟨G28, s28, S31, h31⟩ := Sep.mk (o := .tup [.ref t2, .str wd, .int (valF rs f pa), .ref ka]) S30 nt4
      refine ⟨sz, fun z1 nz1 => ?_⟩
      obtain ⟨G29, s29, S32, h32⟩ := Sep.mk (o := .lst [.ref t4]) S31 nz1
      have s2729 := s28.trans s29
      have how29 := how27.same s2729
      have ea29 : BdA G29 (1 + r17) wd [.ref t4] (some (valF rs f pa, kys rs ls pa)) := ⟨_, rfl, t4, .ref t2, ka, rfl, s29 _ _ h31, how29, s2729 _ _ (s927 _ _ hga)⟩
      refine ⟨G29, _, x, z1, dx, l0, [], _, 1 + r17, wd, none, (valF rs f pa, kys rs ls pa), rfl, hwd, S32, rfl, SqL.of h32, ea29, fun D1 l1 ds1 es1 G30 H30 s30 S33 hbd30 _ => ?_⟩
      have S34 := S33.drop
      have s2730 := s2729.trans s30
      have lv30 := lv27.same s2730
      have hKc30 := same_l s2730 hKc27
      have hT30 := same_t s2730 hT
      refine ⟨_, .int (pb : Nat), .inr (S34.t hT30), rfl, _, .int (valF rs f pb), .inl (S34.l lv30.hA), hv hpb, _, .int (pb : Nat), .inr (S34.t hT30), rfl, _, .ref kb, .inl (S34.l hKc30), hkb, sz, fun t5 nt5 => ?_⟩
      obtain ⟨G31, s31, S35, h35⟩ := Sep.mk (o := .tup [.ref t2, .str wd, .int (valF rs f pb), .ref kb]) S34 nt5
      refine ⟨sz, fun z2 nz2 => ?_⟩
      obtain ⟨G32, s32, S36, h36⟩ := Sep.mk (o := .lst [.ref t5]) S35 nz2
      have s3032 := s31.trans s32
      have s2732 := s2730.trans s3032
      have how32 := how27.same s2732
      have eb32 : BdA G32 (1 + r17) wd [.ref t5] (some (valF rs f pb, kys rs ls pb)) := ⟨_, rfl, t5, .ref t2, kb, rfl, s32 _ _ h35, how32, s2732 _ _ (s927 _ _ hgb)⟩
      refine ⟨x, dx, _, rfl, S36.hd, rfl, z2, _, rfl, .inl (SqL.of (S36.st h36)), fun z3 nz3 => ?_⟩
      obtain ⟨G33, s33, S37, h37⟩ := Sep.mk (o := .lst [.ref t5]) S36 nz3
      refine ⟨G33, _, x, z3, dx, l1, es1, _, 1 + r17, wd, some (valF rs f pa, kys rs ls pa), (valF rs f pb, kys rs ls pb), rfl, hwd, S37, (hbd30.same s3032).same s33, SqL.of h37, eb32.same s33, fun D2 l2 ds2 es2 G34 H34 s34 S38 hbd34 hds => ?_⟩
      have hds0 : ds2 = [] := hds ⟨_, by rw [hkey]⟩
      subst hds0
      have hbn : bdN (some (valF rs f pa, kys rs ls pa)) (valF rs f pb, kys rs ls pb) = (valF rs f pa, kys rs ls pa) := if_pos hkey
      rw [hbn] at hbd34
      obtain ⟨G35, s35, S39, hD2⟩ := Sep.keep S38
      refine ⟨sz, fun em nem => ?_⟩
      obtain ⟨G36, s36, S40, hem⟩ := Sep.mk (o := .lst []) S39 nem
      have la := rs_lay (n := 1 + r17) hwd none
      refine ⟨G36, _, D2, em, [], rsD (1 + r17) wd none, rfl, S40, dp_rs (n := 1 + r17) (wd := wd) (r := none) (s36 _ _ hD2) rfl, dp_rs (n := 1 + r17) (wd := wd) (r := none) hem rfl, la.1, la.2.1, la.2.2, s36 _ _ hD2, (fun _ h => nomatch h), fun G37 H37 s37 S41 => ⟨ff, fun _ => ?_⟩⟩
      have s3437 := (s35.trans s36).trans s37
      have s3237 := (s33.trans s34).trans s3437
      have s2737 := s2732.trans s3237
      refine ⟨G37, _, x, z2, dx, l2, es2, _, 1 + r17, wd, (valF rs f pa, kys rs ls pa), (valF rs f pb, kys rs ls pb), rfl, hwd, S41, hbd34.same s3437, SqL.of (s3237 _ _ h36), eb32.same s3237, fun D3 ds3 G38 H38 s38 S42 _ hds3 => ?_⟩
      obtain ⟨t6, ow6, rfl, ht6, how6⟩ := hds3 hval
      obtain ⟨G39, s39, S43, hD3⟩ := Sep.keep S42
      have s2739 := (s2737.trans s38).trans s39
      have lv39 := lv27.same s2739
      have hT39 := same_t s2739 hT
      refine ⟨_, .int (pa : Nat), .inr (S43.t hT39), at0, _, .int (valF rs f pa), .inl (S43.l lv39.hA), hv hpa, _, .int (pb : Nat), .inr (S43.t hT39), rfl, _, .int (valF rs f pb), .inl (S43.l lv39.hA), hv hpb, sz, fun t7 nt7 => ?_⟩
      obtain ⟨G40, s40, S44, h44⟩ := Sep.mk (o := .tup [.ref t2, .str wd, .int (valF rs f pa), .int (valF rs f pb)]) S43 nt7
      refine ⟨sz, fun du ndu => ?_⟩
      obtain ⟨G41, s41, S45, h45⟩ := Sep.mk (o := .lst [.ref t7]) S44 ndu
      have s3941 := s40.trans s41
      have r1 : RsB G41 (1 + r17) wd [.ref t6] (some [valF rs f pa, valF rs f pb]) := ⟨_, rfl, t6, ow6, rfl, s3941 _ _ (s39 _ _ ht6), (how6.same s39).same s3941⟩
      have r2 : RsB G41 (1 + r17) wd [.ref t7] (some [valF rs f pa, valF rs f pb]) := ⟨_, rfl, t7, .ref t2, rfl, s41 _ _ h44, how27.same (s2739.trans s3941)⟩
      have la2 := rs_lay (n := 1 + r17) hwd (some [valF rs f pa, valF rs f pb])
      exact ⟨G41, _, D3, du, _, _, rfl, S45, dp_rs (s3941 _ _ hD3) r1, dp_rs h45 r2, la2.1, la2.2.1, la2.2.2, s3941 _ _ hD3, rs_parts r1, fun _ H46 _ _ => q H46⟩

end
end K43
set_option Elab.async false
set_option linter.all false
set_option maxRecDepth 100000
set_option maxHeartbeats 4000000
namespace K43
open PySem PySem.Spec PyProof.Rows L2 XL
theorem law_end {l : PySem.W.OpenLaw} {w : World} {K : PySem.W.Frag} {h : Heap} {mg : Str → Option Value} {fa f : Addr} {file : Str} (X : K.In h) (G : h.Ns mainGlobals mg) (hfa : mg "law" = some (.ref fa))
    (t : ∃ T : Top K mg w, T.a_law = f ∧ T.x_file = file ∧ ∀ (s : Shared) (v : Value), BindsTo s T.d_law ⟨[v], []⟩ [("_law_script", v)]) (pf0 : PySem.XExc.PF l.prog file) :
    ∃ fd : FuncData, (∀ (s : Shared) (v : Value), BindsTo s fd ⟨[v], []⟩ [("_law_script", v)]) ∧ ∀ base : Heap, K.In base → base.Ns mainGlobals mg → FnOk l.prog w K mg base CX0 30 fa fd ["_law_script"] (spLaw K) := by
  obtain ⟨T, _, ef, hb⟩ := t
  have pf : PySem.XExc.PF l.prog T.x_file := by rw [ef]; exact pf0
  have e := hfa.symm.trans T.g_law
  cases e
  refine ⟨T.d_law, hb, fun base _ _ => ?_⟩
  have Gp : ∀ k, FnOk l.prog w K mg base CX0 (k + 2) T.a_pick T.d_pick _ spPick := fun k => ok_pick T (k := k) (ok_mixed T)
  have Gn : ∀ k, FnOk l.prog w K mg base CX0 (k + 3) T.a_new_name T.d_new_name _ spNew := fun k => ok_new_name T (k := k + 2) (Gp k)
  have Gc : ∀ k, FnOk l.prog w K mg base CX0 (k + 3) T.a_choice T.d_choice _ (spChoice K) := fun k => ok_choice T (k := k + 2) (Gp k)
  have Gm : ∀ k, FnOk l.prog w K mg base CX0 (k + 3) T.a_mingled T.d_mingled _ (spMingled K) := fun k => ok_mingled T (k := k + 2) (Gp k)
  have Gvo : FnOk l.prog w K mg base CX0 6 T.a_value_of T.d_value_of _ (spValueOf K 5) := ok_value_of T 5
  have Gva : FnOk l.prog w K mg base CX0 6 T.a_value T.d_value _ (spValue K 5) := ok_value T 5
  have Gcf : ∀ k, FnOk l.prog w K mg base CX0 (k + 3) T.a_check_form T.d_check_form _ (spCheck K) := fun k => ok_check_form T (k := k + 2) (ok_is_part T (k := k) (ok_is_number T) (ok_is_name T))
  have Gst : ∀ k, YFn l.prog w K mg base (k + 3) T.a_settings T.d_settings _ (goS K T.C_TooMany) StS.ini := fun k => ok_settings T pf (k := k + 2) (ok_counted T pf (k := k)) (ok_setting_at T (k := k + 1))
  have Gpa : ∀ k, FnOk l.prog w K mg base (L2.CX l.prog w) (k + 11) T.a_parted T.d_parted _ (spParted K T.C_TooMany) := fun k => ok_parted T pf (k := k + 6) (Gcf (k + 3)) (Gvo.mono (by omega)) (Gst (k + 3))
  have Gar : ∀ k, FnOk l.prog w K mg base CX0 (k + 1) T.a_Effects_armed T.d_Effects_armed _ (spArmed K T.C_Effects) := fun k => ok_armed T
  have Gbr : ∀ k, FnOk l.prog w K mg base CX0 (k + 12) T.a_Effects_bring T.d_Effects_bring _ (spBring K T.C_Effects) := fun k => ok_bring T
  have Gbe : ∀ k, FnOk l.prog w K mg base CX0 (k + 13) T.a_behind T.d_behind _ (spBehind K T.C_Effects) := fun k => ok_behind T (k := k + 1) (Gar k)
  have Gsa : ∀ k, FnOk l.prog w K mg base CX0 (k + 1) T.a_same T.d_same _ (spSame K) := fun k => ok_law_same T
  have Gdr : FnOk l.prog w K mg base CX0 27 T.a_drawn_form T.d_drawn_form _ (spDrawn K) := ok_drawn_form T (k := 26) (Gp 24) (Gc 23) (ok_form T (k := 20) (Gp 18) (Gc 17) 5)
  have Gne : FnOk l.prog w K mg base CX0 27 T.a_needed T.d_needed _ (spNeeded K) := ok_needed T (k := 15)
  have Gli : FnOk l.prog w K mg base CX0 27 T.a_listed T.d_listed _ (spListed K) := ok_listed T (k := 22) (Gp 20) (Gm 19)
  have Gfp : FnOk l.prog w K mg base CX0 27 T.a_first_pair T.d_first_pair _ (spFirst K) := ok_law_first_pair T (k := 22)
  have Gpt : FnOk l.prog w K mg base CX0 27 T.a_pair_told T.d_pair_told _ (spPairTold K) := ok_pair_told T (k := 23) (ok_number T)
  have Gal : FnOk l.prog w K mg base CX0 27 T.a_along T.d_along _ (spAlong K T.C_Effects) := ok_along T (k := 22) (Gsa 21) (Gbe 9) (Gar 21) (Gbr 10)
  have Gtm : FnOk l.prog w K mg base CX0 27 T.a_too_many T.d_too_many _ (spTooMany K) := ok_too_many T pf (k := 22) (Gp 20) (Gn 19) (okQ_number T) (Gpa 11)
  exact ok_law T (k := 27) (ok_bag T) (Gp 25) (ok_ranges T (k := 26) (Gp 24) (Gn 23)) Gdr (ok_law_settings T) (Gva.mono (by decide)) Gne Gli Gfp (Gpa 16) Gpt (Gn 24) Gal Gtm (Gsa 26) (Gbe 14) (Gbr 15) (ok_EInit T)
end K43
set_option Elab.async false
set_option linter.all false
set_option maxRecDepth 100000
set_option maxHeartbeats 4000000
namespace K43
open PySem PySem.Spec PyProof.Rows L2 XL
theorem top_mk {K : PySem.W.Frag} {W : World} {h : Heap} {mg : Str → Option Value} (X : K.In h) (G : h.Ns mainGlobals mg)
    {C0 : Addr}
    (ca0 : PySem.W.nsIn K mainGlobals "Effects" = some (some (.ref C0)))
    {f0 : Addr} {od0 an0 : Option Addr} {sl0 : Array (Option Value)} {oc0 kV0 dc0 pm0 cd0 ct0 : Value}
    (a0 : PySem.W.nsIn K mainGlobals "is_name" = some (some (.ref f0)))
    (l0 : K.lookup f0 = some ⟨oc0, od0, .func (PySem.W.fnOf "is_name" "is_name" (defArgs s_is_name) (defBody s_is_name) (defScope s_is_name) .none kV0 dc0 pm0 an0 cd0 ct0), sl0⟩)
    (c0 : PySem.W.codeIn K cd0 "is_name" = true)
    (k0 : PySem.W.keepIn K (.ref f0) = true)
    {f1 : Addr} {od1 an1 : Option Addr} {sl1 : Array (Option Value)} {oc1 kV1 dc1 pm1 cd1 ct1 : Value}
    (a1 : PySem.W.nsIn K mainGlobals "is_number" = some (some (.ref f1)))
    (l1 : K.lookup f1 = some ⟨oc1, od1, .func (PySem.W.fnOf "is_number" "is_number" (defArgs s_is_number) (defBody s_is_number) (defScope s_is_number) .none kV1 dc1 pm1 an1 cd1 ct1), sl1⟩)
    (c1 : PySem.W.codeIn K cd1 "is_number" = true)
    (k1 : PySem.W.keepIn K (.ref f1) = true)
    {f2 : Addr} {od2 an2 : Option Addr} {sl2 : Array (Option Value)} {oc2 kV2 dc2 pm2 cd2 ct2 : Value}
    (a2 : PySem.W.nsIn K mainGlobals "is_part" = some (some (.ref f2)))
    (l2 : K.lookup f2 = some ⟨oc2, od2, .func (PySem.W.fnOf "is_part" "is_part" (defArgs s_is_part) (defBody s_is_part) (defScope s_is_part) .none kV2 dc2 pm2 an2 cd2 ct2), sl2⟩)
    (c2 : PySem.W.codeIn K cd2 "is_part" = true)
    (k2 : PySem.W.keepIn K (.ref f2) = true)
    {f3 : Addr} {od3 an3 : Option Addr} {sl3 : Array (Option Value)} {oc3 kV3 dc3 pm3 cd3 ct3 : Value}
    (a3 : PySem.W.nsIn K mainGlobals "check_form" = some (some (.ref f3)))
    (l3 : K.lookup f3 = some ⟨oc3, od3, .func (PySem.W.fnOf "check_form" "check_form" (defArgs s_check_form) (defBody s_check_form) (defScope s_check_form) .none kV3 dc3 pm3 an3 cd3 ct3), sl3⟩)
    (c3 : PySem.W.codeIn K cd3 "check_form" = true)
    (k3 : PySem.W.keepIn K (.ref f3) = true)
    {f4 : Addr} {od4 an4 : Option Addr} {sl4 : Array (Option Value)} {oc4 kV4 dc4 pm4 cd4 ct4 : Value}
    (a4 : PySem.W.nsIn K mainGlobals "value_of" = some (some (.ref f4)))
    (l4 : K.lookup f4 = some ⟨oc4, od4, .func (PySem.W.fnOf "value_of" "value_of" (defArgs s_value_of) (defBody s_value_of) (defScope s_value_of) .none kV4 dc4 pm4 an4 cd4 ct4), sl4⟩)
    (c4 : PySem.W.codeIn K cd4 "value_of" = true)
    (k4 : PySem.W.keepIn K (.ref f4) = true)
    {f5 : Addr} {od5 an5 : Option Addr} {sl5 : Array (Option Value)} {oc5 kV5 dc5 pm5 cd5 ct5 : Value}
    (a5 : PySem.W.nsIn K mainGlobals "counted" = some (some (.ref f5)))
    (l5 : K.lookup f5 = some ⟨oc5, od5, .func (PySem.W.fnOf "counted" "counted" (defArgs s_counted) (defBody s_counted) (defScope s_counted) .none kV5 dc5 pm5 an5 cd5 ct5), sl5⟩)
    (c5 : PySem.W.codeIn K cd5 "counted" = true)
    (k5 : PySem.W.keepIn K (.ref f5) = true)
    {f6 : Addr} {od6 an6 : Option Addr} {sl6 : Array (Option Value)} {oc6 kV6 dc6 pm6 cd6 ct6 : Value}
    (a6 : PySem.W.nsIn K mainGlobals "setting_at" = some (some (.ref f6)))
    (l6 : K.lookup f6 = some ⟨oc6, od6, .func (PySem.W.fnOf "setting_at" "setting_at" (defArgs s_setting_at) (defBody s_setting_at) (defScope s_setting_at) .none kV6 dc6 pm6 an6 cd6 ct6), sl6⟩)
    (c6 : PySem.W.codeIn K cd6 "setting_at" = true)
    (k6 : PySem.W.keepIn K (.ref f6) = true)
    {f7 : Addr} {od7 an7 : Option Addr} {sl7 : Array (Option Value)} {oc7 kV7 dc7 pm7 cd7 ct7 : Value}
    (a7 : PySem.W.nsIn K mainGlobals "settings" = some (some (.ref f7)))
    (l7 : K.lookup f7 = some ⟨oc7, od7, .func (PySem.W.fnOf "settings" "settings" (defArgs s_settings) (defBody s_settings) (defScope s_settings) .none kV7 dc7 pm7 an7 cd7 ct7), sl7⟩)
    (c7 : PySem.W.codeIn K cd7 "settings" = true)
    (k7 : PySem.W.keepIn K (.ref f7) = true)
    {f8 : Addr} {od8 an8 : Option Addr} {sl8 : Array (Option Value)} {oc8 kV8 dc8 pm8 cd8 ct8 : Value}
    (a8 : PySem.W.findIn K (.ref C0) "__init__" = some (some (.ref f8)))
    (i8 : PySem.W.isFn K (.ref f8) = true)
    (l8 : K.lookup f8 = some ⟨oc8, od8, .func (PySem.W.fnOf "__init__" "Effects.__init__" (defArgs s_Effects_init) (defBody s_Effects_init) (defScope s_Effects_init) .none kV8 dc8 pm8 an8 cd8 ct8), sl8⟩)
    (c8 : PySem.W.codeIn K cd8 "Effects.__init__" = true)
    (k8 : PySem.W.keepIn K (.ref f8) = true)
    {f9 : Addr} {od9 an9 : Option Addr} {sl9 : Array (Option Value)} {oc9 kV9 dc9 pm9 cd9 ct9 : Value}
    (a9 : PySem.W.findIn K (.ref C0) "bring" = some (some (.ref f9)))
    (i9 : PySem.W.isFn K (.ref f9) = true)
    (l9 : K.lookup f9 = some ⟨oc9, od9, .func (PySem.W.fnOf "bring" "Effects.bring" (defArgs s_Effects_bring) (defBody s_Effects_bring) (defScope s_Effects_bring) .none kV9 dc9 pm9 an9 cd9 ct9), sl9⟩)
    (c9 : PySem.W.codeIn K cd9 "Effects.bring" = true)
    (k9 : PySem.W.keepIn K (.ref f9) = true)
    {f10 : Addr} {od10 an10 : Option Addr} {sl10 : Array (Option Value)} {oc10 kV10 dc10 pm10 cd10 ct10 : Value}
    (a10 : PySem.W.findIn K (.ref C0) "armed" = some (some (.ref f10)))
    (i10 : PySem.W.isFn K (.ref f10) = true)
    (l10 : K.lookup f10 = some ⟨oc10, od10, .func (PySem.W.fnOf "armed" "Effects.armed" (defArgs s_Effects_armed) (defBody s_Effects_armed) (defScope s_Effects_armed) .none kV10 dc10 pm10 an10 cd10 ct10), sl10⟩)
    (c10 : PySem.W.codeIn K cd10 "Effects.armed" = true)
    (k10 : PySem.W.keepIn K (.ref f10) = true)
    {f11 : Addr} {od11 an11 : Option Addr} {sl11 : Array (Option Value)} {oc11 kV11 dc11 pm11 cd11 ct11 : Value}
    (a11 : PySem.W.nsIn K mainGlobals "behind" = some (some (.ref f11)))
    (l11 : K.lookup f11 = some ⟨oc11, od11, .func (PySem.W.fnOf "behind" "behind" (defArgs s_behind) (defBody s_behind) (defScope s_behind) .none kV11 dc11 pm11 an11 cd11 ct11), sl11⟩)
    (c11 : PySem.W.codeIn K cd11 "behind" = true)
    (k11 : PySem.W.keepIn K (.ref f11) = true)
    {f12 : Addr} {od12 an12 : Option Addr} {sl12 : Array (Option Value)} {oc12 kV12 dc12 pm12 cd12 ct12 : Value}
    (a12 : PySem.W.nsIn K mainGlobals "parted" = some (some (.ref f12)))
    (l12 : K.lookup f12 = some ⟨oc12, od12, .func (PySem.W.fnOf "parted" "parted" (defArgs s_parted) (defBody s_parted) (defScope s_parted) .none kV12 dc12 pm12 an12 cd12 ct12), sl12⟩)
    (c12 : PySem.W.codeIn K cd12 "parted" = true)
    (k12 : PySem.W.keepIn K (.ref f12) = true)
    {f13 : Addr} {od13 an13 : Option Addr} {sl13 : Array (Option Value)} {oc13 kV13 dc13 pm13 cd13 ct13 : Value}
    (a13 : PySem.W.nsIn K mainGlobals "_law_mixed" = some (some (.ref f13)))
    (l13 : K.lookup f13 = some ⟨oc13, od13, .func (PySem.W.fnOf "_law_mixed" "_law_mixed" (defArgs s_mixed) (defBody s_mixed) (defScope s_mixed) .none kV13 dc13 pm13 an13 cd13 ct13), sl13⟩)
    (c13 : PySem.W.codeIn K cd13 "_law_mixed" = true)
    (k13 : PySem.W.keepIn K (.ref f13) = true)
    {f14 : Addr} {od14 an14 : Option Addr} {sl14 : Array (Option Value)} {oc14 kV14 dc14 pm14 cd14 ct14 : Value}
    (a14 : PySem.W.nsIn K mainGlobals "_law_bag" = some (some (.ref f14)))
    (l14 : K.lookup f14 = some ⟨oc14, od14, .func (PySem.W.fnOf "_law_bag" "_law_bag" (defArgs s_bag) (defBody s_bag) (defScope s_bag) .none kV14 dc14 pm14 an14 cd14 ct14), sl14⟩)
    (c14 : PySem.W.codeIn K cd14 "_law_bag" = true)
    (k14 : PySem.W.keepIn K (.ref f14) = true)
    {f15 : Addr} {od15 an15 : Option Addr} {sl15 : Array (Option Value)} {oc15 kV15 dc15 pm15 cd15 ct15 : Value}
    (a15 : PySem.W.nsIn K mainGlobals "_law_pick" = some (some (.ref f15)))
    (l15 : K.lookup f15 = some ⟨oc15, od15, .func (PySem.W.fnOf "_law_pick" "_law_pick" (defArgs s_pick) (defBody s_pick) (defScope s_pick) .none kV15 dc15 pm15 an15 cd15 ct15), sl15⟩)
    (c15 : PySem.W.codeIn K cd15 "_law_pick" = true)
    (k15 : PySem.W.keepIn K (.ref f15) = true)
    {f16 : Addr} {od16 an16 : Option Addr} {sl16 : Array (Option Value)} {oc16 kV16 dc16 pm16 cd16 ct16 : Value}
    (a16 : PySem.W.nsIn K mainGlobals "_law_choice" = some (some (.ref f16)))
    (l16 : K.lookup f16 = some ⟨oc16, od16, .func (PySem.W.fnOf "_law_choice" "_law_choice" (defArgs s_choice) (defBody s_choice) (defScope s_choice) .none kV16 dc16 pm16 an16 cd16 ct16), sl16⟩)
    (c16 : PySem.W.codeIn K cd16 "_law_choice" = true)
    (k16 : PySem.W.keepIn K (.ref f16) = true)
    {f17 : Addr} {od17 an17 : Option Addr} {sl17 : Array (Option Value)} {oc17 kV17 dc17 pm17 cd17 ct17 : Value}
    (a17 : PySem.W.nsIn K mainGlobals "_law_mingled" = some (some (.ref f17)))
    (l17 : K.lookup f17 = some ⟨oc17, od17, .func (PySem.W.fnOf "_law_mingled" "_law_mingled" (defArgs s_mingled) (defBody s_mingled) (defScope s_mingled) .none kV17 dc17 pm17 an17 cd17 ct17), sl17⟩)
    (c17 : PySem.W.codeIn K cd17 "_law_mingled" = true)
    (k17 : PySem.W.keepIn K (.ref f17) = true)
    {f18 : Addr} {od18 an18 : Option Addr} {sl18 : Array (Option Value)} {oc18 kV18 dc18 pm18 cd18 ct18 : Value}
    (a18 : PySem.W.nsIn K mainGlobals "_law_number" = some (some (.ref f18)))
    (l18 : K.lookup f18 = some ⟨oc18, od18, .func (PySem.W.fnOf "_law_number" "_law_number" (defArgs s_number) (defBody s_number) (defScope s_number) .none kV18 dc18 pm18 an18 cd18 ct18), sl18⟩)
    (c18 : PySem.W.codeIn K cd18 "_law_number" = true)
    (k18 : PySem.W.keepIn K (.ref f18) = true)
    {f19 : Addr} {od19 an19 : Option Addr} {sl19 : Array (Option Value)} {oc19 kV19 dc19 pm19 cd19 ct19 : Value}
    (a19 : PySem.W.nsIn K mainGlobals "_law_new_name" = some (some (.ref f19)))
    (l19 : K.lookup f19 = some ⟨oc19, od19, .func (PySem.W.fnOf "_law_new_name" "_law_new_name" (defArgs s_new_name) (defBody s_new_name) (defScope s_new_name) .none kV19 dc19 pm19 an19 cd19 ct19), sl19⟩)
    (c19 : PySem.W.codeIn K cd19 "_law_new_name" = true)
    (k19 : PySem.W.keepIn K (.ref f19) = true)
    {f20 : Addr} {od20 an20 : Option Addr} {sl20 : Array (Option Value)} {oc20 kV20 dc20 pm20 cd20 ct20 : Value}
    (a20 : PySem.W.nsIn K mainGlobals "_law_form" = some (some (.ref f20)))
    (l20 : K.lookup f20 = some ⟨oc20, od20, .func (PySem.W.fnOf "_law_form" "_law_form" (defArgs s_form) (defBody s_form) (defScope s_form) .none kV20 dc20 pm20 an20 cd20 ct20), sl20⟩)
    (c20 : PySem.W.codeIn K cd20 "_law_form" = true)
    (k20 : PySem.W.keepIn K (.ref f20) = true)
    {f21 : Addr} {od21 an21 : Option Addr} {sl21 : Array (Option Value)} {oc21 kV21 dc21 pm21 cd21 ct21 : Value}
    (a21 : PySem.W.nsIn K mainGlobals "_law_value" = some (some (.ref f21)))
    (l21 : K.lookup f21 = some ⟨oc21, od21, .func (PySem.W.fnOf "_law_value" "_law_value" (defArgs s_value) (defBody s_value) (defScope s_value) .none kV21 dc21 pm21 an21 cd21 ct21), sl21⟩)
    (c21 : PySem.W.codeIn K cd21 "_law_value" = true)
    (k21 : PySem.W.keepIn K (.ref f21) = true)
    {f22 : Addr} {od22 an22 : Option Addr} {sl22 : Array (Option Value)} {oc22 kV22 dc22 pm22 cd22 ct22 : Value}
    (a22 : PySem.W.nsIn K mainGlobals "_law_settings" = some (some (.ref f22)))
    (l22 : K.lookup f22 = some ⟨oc22, od22, .func (PySem.W.fnOf "_law_settings" "_law_settings" (defArgs s_law_settings) (defBody s_law_settings) (defScope s_law_settings) .none kV22 dc22 pm22 an22 cd22 ct22), sl22⟩)
    (c22 : PySem.W.codeIn K cd22 "_law_settings" = true)
    (k22 : PySem.W.keepIn K (.ref f22) = true)
    {f23 : Addr} {od23 an23 : Option Addr} {sl23 : Array (Option Value)} {oc23 kV23 dc23 pm23 cd23 ct23 : Value}
    (a23 : PySem.W.nsIn K mainGlobals "_law_same" = some (some (.ref f23)))
    (l23 : K.lookup f23 = some ⟨oc23, od23, .func (PySem.W.fnOf "_law_same" "_law_same" (defArgs s_same) (defBody s_same) (defScope s_same) .none kV23 dc23 pm23 an23 cd23 ct23), sl23⟩)
    (c23 : PySem.W.codeIn K cd23 "_law_same" = true)
    (k23 : PySem.W.keepIn K (.ref f23) = true)
    {f24 : Addr} {od24 an24 : Option Addr} {sl24 : Array (Option Value)} {oc24 kV24 dc24 pm24 cd24 ct24 : Value}
    (a24 : PySem.W.nsIn K mainGlobals "_law_ranges" = some (some (.ref f24)))
    (l24 : K.lookup f24 = some ⟨oc24, od24, .func (PySem.W.fnOf "_law_ranges" "_law_ranges" (defArgs s_ranges) (defBody s_ranges) (defScope s_ranges) .none kV24 dc24 pm24 an24 cd24 ct24), sl24⟩)
    (c24 : PySem.W.codeIn K cd24 "_law_ranges" = true)
    (k24 : PySem.W.keepIn K (.ref f24) = true)
    {f25 : Addr} {od25 an25 : Option Addr} {sl25 : Array (Option Value)} {oc25 kV25 dc25 pm25 cd25 ct25 : Value}
    (a25 : PySem.W.nsIn K mainGlobals "_law_drawn_form" = some (some (.ref f25)))
    (l25 : K.lookup f25 = some ⟨oc25, od25, .func (PySem.W.fnOf "_law_drawn_form" "_law_drawn_form" (defArgs s_drawn_form) (defBody s_drawn_form) (defScope s_drawn_form) .none kV25 dc25 pm25 an25 cd25 ct25), sl25⟩)
    (c25 : PySem.W.codeIn K cd25 "_law_drawn_form" = true)
    (k25 : PySem.W.keepIn K (.ref f25) = true)
    {f26 : Addr} {od26 an26 : Option Addr} {sl26 : Array (Option Value)} {oc26 kV26 dc26 pm26 cd26 ct26 : Value}
    (a26 : PySem.W.nsIn K mainGlobals "_law_needed" = some (some (.ref f26)))
    (l26 : K.lookup f26 = some ⟨oc26, od26, .func (PySem.W.fnOf "_law_needed" "_law_needed" (defArgs s_needed) (defBody s_needed) (defScope s_needed) .none kV26 dc26 pm26 an26 cd26 ct26), sl26⟩)
    (c26 : PySem.W.codeIn K cd26 "_law_needed" = true)
    (k26 : PySem.W.keepIn K (.ref f26) = true)
    {f27 : Addr} {od27 an27 : Option Addr} {sl27 : Array (Option Value)} {oc27 kV27 dc27 pm27 cd27 ct27 : Value}
    (a27 : PySem.W.nsIn K mainGlobals "_law_listed" = some (some (.ref f27)))
    (l27 : K.lookup f27 = some ⟨oc27, od27, .func (PySem.W.fnOf "_law_listed" "_law_listed" (defArgs s_listed) (defBody s_listed) (defScope s_listed) .none kV27 dc27 pm27 an27 cd27 ct27), sl27⟩)
    (c27 : PySem.W.codeIn K cd27 "_law_listed" = true)
    (k27 : PySem.W.keepIn K (.ref f27) = true)
    {f28 : Addr} {od28 an28 : Option Addr} {sl28 : Array (Option Value)} {oc28 kV28 dc28 pm28 cd28 ct28 : Value}
    (a28 : PySem.W.nsIn K mainGlobals "_law_first_pair" = some (some (.ref f28)))
    (l28 : K.lookup f28 = some ⟨oc28, od28, .func (PySem.W.fnOf "_law_first_pair" "_law_first_pair" (defArgs s_first_pair) (defBody s_first_pair) (defScope s_first_pair) .none kV28 dc28 pm28 an28 cd28 ct28), sl28⟩)
    (c28 : PySem.W.codeIn K cd28 "_law_first_pair" = true)
    (k28 : PySem.W.keepIn K (.ref f28) = true)
    {f29 : Addr} {od29 an29 : Option Addr} {sl29 : Array (Option Value)} {oc29 kV29 dc29 pm29 cd29 ct29 : Value}
    (a29 : PySem.W.nsIn K mainGlobals "_law_pair_told" = some (some (.ref f29)))
    (l29 : K.lookup f29 = some ⟨oc29, od29, .func (PySem.W.fnOf "_law_pair_told" "_law_pair_told" (defArgs s_pair_told) (defBody s_pair_told) (defScope s_pair_told) .none kV29 dc29 pm29 an29 cd29 ct29), sl29⟩)
    (c29 : PySem.W.codeIn K cd29 "_law_pair_told" = true)
    (k29 : PySem.W.keepIn K (.ref f29) = true)
    {f30 : Addr} {od30 an30 : Option Addr} {sl30 : Array (Option Value)} {oc30 kV30 dc30 pm30 cd30 ct30 : Value}
    (a30 : PySem.W.nsIn K mainGlobals "_law_too_many" = some (some (.ref f30)))
    (l30 : K.lookup f30 = some ⟨oc30, od30, .func (PySem.W.fnOf "_law_too_many" "_law_too_many" (defArgs s_too_many) (defBody s_too_many) (defScope s_too_many) .none kV30 dc30 pm30 an30 cd30 ct30), sl30⟩)
    (c30 : PySem.W.codeIn K cd30 "_law_too_many" = true)
    (k30 : PySem.W.keepIn K (.ref f30) = true)
    {f31 : Addr} {od31 an31 : Option Addr} {sl31 : Array (Option Value)} {oc31 kV31 dc31 pm31 cd31 ct31 : Value}
    (a31 : PySem.W.nsIn K mainGlobals "_law_along" = some (some (.ref f31)))
    (l31 : K.lookup f31 = some ⟨oc31, od31, .func (PySem.W.fnOf "_law_along" "_law_along" (defArgs s_along) (defBody s_along) (defScope s_along) .none kV31 dc31 pm31 an31 cd31 ct31), sl31⟩)
    (c31 : PySem.W.codeIn K cd31 "_law_along" = true)
    (k31 : PySem.W.keepIn K (.ref f31) = true)
    {f32 : Addr} {od32 an32 : Option Addr} {sl32 : Array (Option Value)} {oc32 kV32 dc32 pm32 cd32 ct32 : Value}
    (a32 : PySem.W.nsIn K mainGlobals "law" = some (some (.ref f32)))
    (l32 : K.lookup f32 = some ⟨oc32, od32, .func (PySem.W.fnOf "law" "law" (defArgs s_law) (defBody s_law) (defScope s_law) .none kV32 dc32 pm32 an32 cd32 ct32), sl32⟩)
    (c32 : PySem.W.codeIn K cd32 "law" = true)
    (k32 : PySem.W.keepIn K (.ref f32) = true)
    (z0 : PySem.W.nsIn K mainGlobals "abs" = some none)
    (z1 : PySem.W.nsIn K mainGlobals "all" = some none)
    (z2 : PySem.W.nsIn K mainGlobals "bool" = some none)
    (z3 : PySem.W.nsIn K mainGlobals "dict" = some none)
    (z4 : PySem.W.nsIn K mainGlobals "enumerate" = some none)
    (z5 : PySem.W.nsIn K mainGlobals "int" = some none)
    (z6 : PySem.W.nsIn K mainGlobals "isinstance" = some none)
    (z7 : PySem.W.nsIn K mainGlobals "len" = some none)
    (z8 : PySem.W.nsIn K mainGlobals "list" = some none)
    (z9 : PySem.W.nsIn K mainGlobals "range" = some none)
    (z10 : PySem.W.nsIn K mainGlobals "str" = some none)
    (z11 : PySem.W.nsIn K mainGlobals "tuple" = some none)
    {w0 : Value}
    (y0 : PySem.W.nsIn K mainGlobals "LETTERS" = some (some w0))
    (x0 : ∃ t, w0 = .str "abcdefghijklmnopqrstuvwxyz" t)
    {w1 : Value}
    (y1 : PySem.W.nsIn K mainGlobals "MOST_LEVELS" = some (some w1))
    (x1 : ∃ t, w1 = .int 5 t)
    {w2 : Value}
    (y2 : PySem.W.nsIn K mainGlobals "MOST_SETTINGS" = some (some w2))
    (x2 : ∃ t, w2 = .int 256 t)
    {D0 : Addr} {de0 : Array DictEntry} {dn0 : Nat}
    (da0 : PySem.W.nsIn K mainGlobals "COUNTS" = some (some (.ref D0)))
    (dl0 : K.lookup D0 = some ⟨.type "dict", none, .dict de0 dn0, #[]⟩)
    (dk0 : PySem.W.KeysLit W.params de0.toList)
    (dw0 : (D0 == sysModules) = false)
    {dt0_0 : Tok}
    (dv0_0 : PySem.W.nsIn K D0 "is" = some (some (.int 2 dt0_0)))
    {dt0_1 : Tok}
    (dv0_1 : PySem.W.nsIn K D0 "get" = some (some (.int 2 dt0_1)))
    {dt0_2 : Tok}
    (dv0_2 : PySem.W.nsIn K D0 "sum" = some (some (.int 3 dt0_2)))
    {dt0_3 : Tok}
    (dv0_3 : PySem.W.nsIn K D0 "same" = some (some (.int 3 dt0_3)))
    {dt0_4 : Tok}
    (dv0_4 : PySem.W.nsIn K D0 "pick" = some (some (.int 4 dt0_4)))
    (cg0 : PySem.W.plainGet K C0 Str.empty = true)
    (ch0 : PySem.W.hasDictIn K C0 = true)
    (co0 : PySem.W.plainOver K C0 = true)
    (cs0 : PySem.W.findIn K (.ref C0) "__setattr__" = some (some (.builtin "object.__setattr__")))
    (cf0_0 : PySem.W.findIn K (.ref C0) "held" = some none)
    (cm0 : PySem.W.makesIn K C0 = true)
    (ck0 : PySem.W.keepIn K (.ref C0) = true)
    {file : Str}
    {E0 : Addr}
    (xa0 : PySem.W.nsIn K mainGlobals "TooMany" = some (some (.ref E0)))
    {R0 : Addr}
    (ra0 : PySem.W.nsIn K mainGlobals "ScreenError" = some (some (.ref R0)))
    (rb0 : PySem.W.isClsIn K R0 = true)
    (rc0 : PySem.W.typeIn K (.ref R0) = some (.type "type"))
    {R1 : Addr}
    (ra1 : PySem.W.nsIn K mainGlobals "NoName" = some (some (.ref R1)))
    (rb1 : PySem.W.isClsIn K R1 = true)
    (rc1 : PySem.W.typeIn K (.ref R1) = some (.type "type"))
    {J0 : Addr}
    {xnm0 xq0 : Str} {xN0 : Addr} {xbs0 xbm0 xsub0 : List Value} {xsn0 : List Str} {xab0 : Bool} {xcol0 : Option Bool} {xdd0 : Option Addr} {xm00 xm10 xm20 xm30 xm50 : Option Value}
    (xL0 : K.lookup E0 = some (excClassObj xnm0 xq0 E0 xN0 xbs0 xbm0 true xsn0 xsub0 xab0 xcol0 xdd0 xm00 xm10 xm20 xm30 xm50 "ValueError.__new__"))
    (xr0 : PySem.HandSPX.refsVE xbm0 = true)
    (xs0 : PySem.W.findIn K (.ref E0) "__setattr__" = some (some (.builtin "object.__setattr__")))
    (xg0 : PySem.W.findIn K (.ref E0) "__getattribute__" = some (some (.builtin "BaseException.__getattribute__")))
    (xh0 : PySem.W.findIn K (.ref E0) "__getattr__" = some none)
    (xf0 : PySem.W.findIn K (.ref E0) "count" = some none)
    (xi0 : PySem.W.findIn K (.ref E0) "__init__" = some (some (.ref J0)))
    (xt0 : PySem.W.typeIn K (.ref J0) = some (.type "function"))
    {xoc0 xkV0 xdc0 xpm0 xct0 xccl0 xcl0 : Value} {xod0 xan0 xcdd0 xcld0 : Option Addr} {xsl0 xccs0 xcsl0 : Array (Option Value)} {cda0 cc0 : Addr} {xvs0 : Array Value} {xtf0 : Tok}
    (xl0 : K.lookup J0 = some ⟨xoc0, xod0, .func (PySem.W.ksFn "__init__" "TooMany.__init__" (defArgs s_TooMany_init) (defBody s_TooMany_init) (defScope s_TooMany_init) .none xkV0 xdc0 xpm0 xan0 (.ref cda0) xct0 cc0), xsl0⟩)
    (xd0 : PySem.W.codeIn K (.ref cda0) "TooMany.__init__" = true)
    (xe0 : K.lookup cda0 = some ⟨xccl0, xcdd0, .fields xvs0, xccs0⟩)
    (xv0 : xvs0[2]? = some (.str file xtf0))
    (xc0 : K.lookup cc0 = some ⟨xcl0, xcld0, .cell (some (.ref E0)), xcsl0⟩)
    (xk0 : PySem.W.keepIn K (.ref E0) = true)
    (xb0 : PySem.W.subIn K (.ref E0) (.type "BaseException") = some true)
    (xy0 : PySem.W.typeIn K (.ref E0) = some (.type "type"))
    (xj0 : PySem.W.hasDictIn K E0 = true)
    (xp0 : PySem.W.ks_superIn K E0 E0 "__init__" = some (some (.builtin "ValueError.__init__")))
    (xw0 : PySem.W.subIn K (.ref E0) (.type "ValueError") = some true)
    (xz0 : PySem.W.mroIn K E0 (.ref E0) = some true)
    (xo0 : PySem.W.nsIn K cStatics "thirdparty.any" = some none)
    (xu0 : PySem.W.nsIn K mainGlobals "super" = some none)
    (xca0 : PySem.W.findIn K (.ref E0) "__class__" = some (some (.builtin "object.__class__")))
    (xcb0 : PySem.W.specialIn K (.builtin "object.__class__") "__get__" = some (some (.builtin "getset_descriptor.__get__")))
    (xcc0 : PySem.W.takesIn K (.builtin "object.__class__") = some true)
    (xcd0 : PySem.W.mroIn K E0 (.type "object") = some true)
    (xn0_R1 : PySem.W.subIn K (.ref E0) (.ref R1) = some false)
    (xq0_R1 : (Value.ref E0 == Value.ref R1) = false)
    (xa0_0 : PySem.W.subIn K (.ref E0) (.ref R0) = some true)
    (xb0_0 : (Value.ref E0 == Value.ref R0) = false)
    (xsc0 : PySem.W.isClsIn K E0 = true)
    (xss0 : PySem.W.subIn K (.ref E0) (.ref E0) = some true)
    (xst0 : PySem.W.subIn K (.ref E0) (.type "StopIteration") = some false)
    : ∃ T : Top K mg W, T.a_law = f32 ∧ T.x_file = file ∧ ∀ (s : Shared) (v : Value), BindsTo s T.d_law ⟨[v], []⟩ [("_law_script", v)] := by
  have F0 := fun_mk (st := s_is_name) l0 c0 k0
  have F1 := fun_mk (st := s_is_number) l1 c1 k1
  have F2 := fun_mk (st := s_is_part) l2 c2 k2
  have F3 := fun_mk (st := s_check_form) l3 c3 k3
  have F4 := fun_mk (st := s_value_of) l4 c4 k4
  have F5 := fun_mk (st := s_counted) l5 c5 k5
  have F6 := fun_mk (st := s_setting_at) l6 c6 k6
  have F7 := fun_mk (st := s_settings) l7 c7 k7
  have F8 := fun_mk (st := s_Effects_init) l8 c8 k8
  have F9 := fun_mk (st := s_Effects_bring) l9 c9 k9
  have F10 := fun_mk (st := s_Effects_armed) l10 c10 k10
  have F11 := fun_mk (st := s_behind) l11 c11 k11
  have F12 := fun_mk (st := s_parted) l12 c12 k12
  have F13 := fun_mk (st := s_mixed) l13 c13 k13
  have F14 := fun_mk (st := s_bag) l14 c14 k14
  have F15 := fun_mk (st := s_pick) l15 c15 k15
  have F16 := fun_mk (st := s_choice) l16 c16 k16
  have F17 := fun_mk (st := s_mingled) l17 c17 k17
  have F18 := fun_mk (st := s_number) l18 c18 k18
  have F19 := fun_mk (st := s_new_name) l19 c19 k19
  have F20 := fun_mk (st := s_form) l20 c20 k20
  have F21 := fun_mk (st := s_value) l21 c21 k21
  have F22 := fun_mk (st := s_law_settings) l22 c22 k22
  have F23 := fun_mk (st := s_same) l23 c23 k23
  have F24 := fun_mk (st := s_ranges) l24 c24 k24
  have F25 := fun_mk (st := s_drawn_form) l25 c25 k25
  have F26 := fun_mk (st := s_needed) l26 c26 k26
  have F27 := fun_mk (st := s_listed) l27 c27 k27
  have F28 := fun_mk (st := s_first_pair) l28 c28 k28
  have F29 := fun_mk (st := s_pair_told) l29 c29 k29
  have F30 := fun_mk (st := s_too_many) l30 c30 k30
  have F31 := fun_mk (st := s_along) l31 c31 k31
  have F32 := fun_mk (st := s_law) l32 c32 k32
  exact ⟨⟨PySem.W.mg_none_of X G z0,
    PySem.W.mg_none_of X G z1,
    PySem.W.mg_none_of X G z2,
    PySem.W.mg_none_of X G z3,
    PySem.W.mg_none_of X G z4,
    PySem.W.mg_none_of X G z5,
    PySem.W.mg_none_of X G z6,
    PySem.W.mg_none_of X G z7,
    PySem.W.mg_none_of X G z8,
    PySem.W.mg_none_of X G z9,
    PySem.W.mg_none_of X G z10,
    PySem.W.mg_none_of X G z11,
    (by obtain ⟨t, e⟩ := x0; exact ⟨t, e ▸ PySem.W.mg_of X G y0⟩),
    (by obtain ⟨t, e⟩ := x1; exact ⟨t, e ▸ PySem.W.mg_of X G y1⟩),
    (by obtain ⟨t, e⟩ := x2; exact ⟨t, e ▸ PySem.W.mg_of X G y2⟩),
    f0,
    _,
    F0,
    F0.binds (ps := ["thing"]) (fun _ _ _ _ _ _ us hl => match us, hl with | [_], _ => rfl),
    PySem.W.mg_of X G a0,
    f1,
    _,
    F1,
    F1.binds (ps := ["thing", "low", "high"]) (fun _ _ _ _ _ _ us hl => match us, hl with | [_, _, _], _ => rfl),
    PySem.W.mg_of X G a1,
    f2,
    _,
    F2,
    F2.binds (ps := ["part"]) (fun _ _ _ _ _ _ us hl => match us, hl with | [_], _ => rfl),
    PySem.W.mg_of X G a2,
    f3,
    _,
    F3,
    F3.binds (ps := ["parts"]) (fun _ _ _ _ _ _ us hl => match us, hl with | [_], _ => rfl),
    PySem.W.mg_of X G a3,
    f4,
    _,
    F4,
    F4.binds (ps := ["parts", "values"]) (fun _ _ _ _ _ _ us hl => match us, hl with | [_, _], _ => rfl),
    PySem.W.mg_of X G a4,
    f5,
    _,
    F5,
    F5.binds (ps := ["ranges"]) (fun _ _ _ _ _ _ us hl => match us, hl with | [_], _ => rfl),
    PySem.W.mg_of X G a5,
    f6,
    _,
    F6,
    F6.binds (ps := ["ranges", "number"]) (fun _ _ _ _ _ _ us hl => match us, hl with | [_, _], _ => rfl),
    PySem.W.mg_of X G a6,
    f7,
    _,
    F7,
    F7.binds (ps := ["ranges"]) (fun _ _ _ _ _ _ us hl => match us, hl with | [_], _ => rfl),
    PySem.W.mg_of X G a7,
    f8,
    _,
    F8,
    F8.binds (ps := ["self"]) (fun _ _ _ _ _ _ us hl => match us, hl with | [_], _ => rfl),
    f9,
    _,
    F9,
    F9.binds (ps := ["self", "entries"]) (fun _ _ _ _ _ _ us hl => match us, hl with | [_, _], _ => rfl),
    f10,
    _,
    F10,
    F10.binds (ps := ["self"]) (fun _ _ _ _ _ _ us hl => match us, hl with | [_], _ => rfl),
    f11,
    _,
    F11,
    F11.binds (ps := ["board", "entries"]) (fun _ _ _ _ _ _ us hl => match us, hl with | [_, _], _ => rfl),
    PySem.W.mg_of X G a11,
    f12,
    _,
    F12,
    F12.binds (ps := ["form", "ranges", "names"]) (fun _ _ _ _ _ _ us hl => match us, hl with | [_, _, _], _ => rfl),
    PySem.W.mg_of X G a12,
    f13,
    _,
    F13,
    F13.binds (ps := ["_law_number_here", "_law_turn"]) (fun _ _ _ _ _ _ us hl => match us, hl with | [_, _], _ => rfl),
    PySem.W.mg_of X G a13,
    f14,
    _,
    F14,
    F14.binds (ps := ["_law_script"]) (fun _ _ _ _ _ _ us hl => match us, hl with | [_], _ => rfl),
    PySem.W.mg_of X G a14,
    f15,
    _,
    F15,
    F15.binds (ps := ["_law_bag_here", "_law_many"]) (fun _ _ _ _ _ _ us hl => match us, hl with | [_, _], _ => rfl),
    PySem.W.mg_of X G a15,
    f16,
    _,
    F16,
    F16.binds (ps := ["_law_bag_here", "_law_things"]) (fun _ _ _ _ _ _ us hl => match us, hl with | [_, _], _ => rfl),
    PySem.W.mg_of X G a16,
    f17,
    _,
    F17,
    F17.binds (ps := ["_law_bag_here", "_law_things"]) (fun _ _ _ _ _ _ us hl => match us, hl with | [_, _], _ => rfl),
    PySem.W.mg_of X G a17,
    f18,
    _,
    F18,
    F18.binds (ps := ["_law_thing"]) (fun _ _ _ _ _ _ us hl => match us, hl with | [_], _ => rfl),
    PySem.W.mg_of X G a18,
    f19,
    _,
    F19,
    F19.binds (ps := ["_law_bag_here", "_law_used"]) (fun _ _ _ _ _ _ us hl => match us, hl with | [_, _], _ => rfl),
    PySem.W.mg_of X G a19,
    f20,
    _,
    F20,
    F20.binds (ps := ["_law_bag_here", "_law_readable", "_law_levels"]) (fun _ _ _ _ _ _ us hl => match us, hl with | [_, _, _], _ => rfl),
    PySem.W.mg_of X G a20,
    f21,
    _,
    F21,
    F21.binds (ps := ["_law_form_here", "_law_worths"]) (fun _ _ _ _ _ _ us hl => match us, hl with | [_, _], _ => rfl),
    PySem.W.mg_of X G a21,
    f22,
    _,
    F22,
    F22.binds (ps := ["_law_ranges_here"]) (fun _ _ _ _ _ _ us hl => match us, hl with | [_], _ => rfl),
    PySem.W.mg_of X G a22,
    f23,
    _,
    F23,
    F23.binds (ps := ["_law_told", "_law_due"]) (fun _ _ _ _ _ _ us hl => match us, hl with | [_, _], _ => rfl),
    PySem.W.mg_of X G a23,
    f24,
    _,
    F24,
    F24.binds (ps := ["_law_bag_here"]) (fun _ _ _ _ _ _ us hl => match us, hl with | [_], _ => rfl),
    PySem.W.mg_of X G a24,
    f25,
    _,
    F25,
    F25.binds (ps := ["_law_bag_here", "_law_names"]) (fun _ _ _ _ _ _ us hl => match us, hl with | [_, _], _ => rfl),
    PySem.W.mg_of X G a25,
    f26,
    _,
    F26,
    F26.binds (ps := ["_law_rows", "_law_values", "_law_ranges_here"]) (fun _ _ _ _ _ _ us hl => match us, hl with | [_, _, _], _ => rfl),
    PySem.W.mg_of X G a26,
    f27,
    _,
    F27,
    F27.binds (ps := ["_law_bag_here", "_law_names", "_law_need"]) (fun _ _ _ _ _ _ us hl => match us, hl with | [_, _, _], _ => rfl),
    PySem.W.mg_of X G a27,
    f28,
    _,
    F28,
    F28.binds (ps := ["_law_rows", "_law_values", "_law_keys"]) (fun _ _ _ _ _ _ us hl => match us, hl with | [_, _, _], _ => rfl),
    PySem.W.mg_of X G a28,
    f29,
    _,
    F29,
    F29.binds (ps := ["_law_told", "_law_rows", "_law_pair"]) (fun _ _ _ _ _ _ us hl => match us, hl with | [_, _, _], _ => rfl),
    PySem.W.mg_of X G a29,
    f30,
    _,
    F30,
    F30.binds (ps := ["_law_bag_here", "_law_form_here", "_law_ranges_here", "_law_listed_here"]) (fun _ _ _ _ _ _ us hl => match us, hl with | [_, _, _, _], _ => rfl),
    PySem.W.mg_of X G a30,
    f31,
    _,
    F31,
    F31.binds (ps := ["_law_board", "_law_owner", "_law_word", "_law_steps"]) (fun _ _ _ _ _ _ us hl => match us, hl with | [_, _, _, _], _ => rfl),
    PySem.W.mg_of X G a31,
    f32,
    _,
    F32,
    F32.binds (ps := ["_law_script"]) (fun _ _ _ _ _ _ us hl => match us, hl with | [_], _ => rfl),
    PySem.W.mg_of X G a32,
    D0,
    de0,
    dn0,
    PySem.W.mg_of X G da0,
    dl0,
    dk0,
    dw0,
    ⟨_, dv0_0⟩,
    ⟨_, dv0_1⟩,
    ⟨_, dv0_2⟩,
    ⟨_, dv0_3⟩,
    ⟨_, dv0_4⟩,
    C0,
    PySem.W.mg_of X G ca0,
    ⟨cg0, ch0, co0, cs0⟩,
    cf0_0,
    ⟨cm0, a8, i8, ck0⟩,
    ⟨a9, i9, k9⟩,
    ⟨a10, i10, k10⟩,
    file,
    R0,
    PySem.W.mg_of X G ra0,
    R1,
    PySem.W.mg_of X G ra1,
    E0,
    J0,
    PySem.W.mg_of X G xa0,
    fun P pf => { gC := PySem.W.mg_of X G xa0, cls := ⟨_, _, _, _, _, _, _, _, _, _, _, _, _, _, _, xL0, xr0⟩, sa := xs0, ga := xg0, gg := xh0, noN := xf0, iC := xi0, tC := xt0, kC := xk0, exC := xb0, tyC := xy0, hdC := xj0, fn := ⟨_, _, _, _, _, _, _, _, _, _, _, ⟨19, 17, 19, 21⟩, ⟨19, 23, 19, 28⟩, ⟨⟨20, 8, 20, 13⟩, ⟨20, 8, 20, 15⟩, ⟨20, 8, 20, 24⟩, ⟨20, 27, 20, 37⟩, ⟨20, 38, 20, 43⟩, ⟨20, 37, 20, 44⟩, ⟨20, 25, 20, 45⟩, ⟨20, 8, 20, 46⟩, ⟨20, 8, 20, 46⟩, ⟨21, 8, 21, 12⟩, ⟨21, 8, 21, 18⟩, ⟨21, 21, 21, 26⟩, ⟨21, 8, 21, 26⟩, -1, .inr rfl⟩, _, _, _, _, _, _, _, _, _, xl0, xd0, xe0, xv0, pf.1, xc0, ⟨_, fun _ => rfl⟩, fun _ _ => rfl⟩, sup := xp0, subV := xw0, mroS := xz0, opq := xo0, htop := pf.2, hsup := PySem.W.mg_none_of X G xu0, f1 := by decide, f2 := by decide, f3 := by decide, f4 := by decide, ml := by decide +kernel },
    ⟨xg0, xh0, xb0, xj0, xca0, xcb0, xcc0, xcd0⟩,
    ⟨xg0, xh0, xb0, xj0⟩,
    kit_of xq0_R1 rb1 rc1 xn0_R1,
    kit_of xb0_0 rb0 rc0 xa0_0,
    exm_of xb0 xsc0 xy0 xss0,
    xst0⟩, rfl, rfl, fun s v => .of_eq rfl⟩
end K43
set_option Elab.async false
set_option linter.all false
set_option maxRecDepth 100000
set_option maxHeartbeats 4000000
namespace K43
open PySem PySem.Spec PyProof.Rows L2 XL
end K43
open PySem PySem.W PyProof.Rows
set_option maxHeartbeats 0 in
theorem PySem.Challenge.cw_drawnanew_k43_whole_lists_holds : PySem.Challenge.rw_drawnanew_k43_whole_lists.Holds := by
  w_on; o_law; k_head; (case hw => w_witness2)
  k_fill
  refine L2.walk_of (l := PySem.Challenge.rw_drawnanew_k43_whole_lists) (n := 63) (k := 30) (x := "_law_script") (CX := fun _ => L2.CX0) (sp := fun w => K43.spLaw _) rfl (by decide) rfl ⟨rfl, by decide, by decide⟩ (fun w h Y => PySem.W.kIn_of Y) ?F (fun _ _ a ns hl _ hS => ⟨a, ns, rfl, hS, hl, fun _ => rfl⟩) (fun _ _ _ _ _ h => h)
  case F =>
    intro w mg fa h KX G hmg
    refine' K43.law_end KX G hmg (K43.top_mk (W := w) KX G ?ca0 ?a0 ?l0 ?c0 ?k0 ?a1 ?l1 ?c1 ?k1 ?a2 ?l2 ?c2 ?k2 ?a3 ?l3 ?c3 ?k3 ?a4 ?l4 ?c4 ?k4 ?a5 ?l5 ?c5 ?k5 ?a6 ?l6 ?c6 ?k6 ?a7 ?l7 ?c7 ?k7 ?a8 ?i8 ?l8 ?c8 ?k8 ?a9 ?i9 ?l9 ?c9 ?k9 ?a10 ?i10 ?l10 ?c10 ?k10 ?a11 ?l11 ?c11 ?k11 ?a12 ?l12 ?c12 ?k12 ?a13 ?l13 ?c13 ?k13 ?a14 ?l14 ?c14 ?k14 ?a15 ?l15 ?c15 ?k15 ?a16 ?l16 ?c16 ?k16 ?a17 ?l17 ?c17 ?k17 ?a18 ?l18 ?c18 ?k18 ?a19 ?l19 ?c19 ?k19 ?a20 ?l20 ?c20 ?k20 ?a21 ?l21 ?c21 ?k21 ?a22 ?l22 ?c22 ?k22 ?a23 ?l23 ?c23 ?k23 ?a24 ?l24 ?c24 ?k24 ?a25 ?l25 ?c25 ?k25 ?a26 ?l26 ?c26 ?k26 ?a27 ?l27 ?c27 ?k27 ?a28 ?l28 ?c28 ?k28 ?a29 ?l29 ?c29 ?k29 ?a30 ?l30 ?c30 ?k30 ?a31 ?l31 ?c31 ?k31 ?a32 ?l32 ?c32 ?k32 ?z0 ?z1 ?z2 ?z3 ?z4 ?z5 ?z6 ?z7 ?z8 ?z9 ?z10 ?z11 ?y0 ?x0 ?y1 ?x1 ?y2 ?x2 ?da0 ?dl0 ?dk0 ?dw0 ?dv0_0 ?dv0_1 ?dv0_2 ?dv0_3 ?dv0_4 ?cg0 ?ch0 ?co0 ?cs0 ?cf0_0 ?cm0 ?ck0 ?xa0 ?ra0 ?rb0 ?rc0 ?ra1 ?rb1 ?rc1 ?xL0 ?xr0 ?xs0 ?xg0 ?xh0 ?xf0 ?xi0 ?xt0 ?xl0 ?xd0 ?xe0 ?xv0 ?xc0 ?xk0 ?xb0 ?xy0 ?xj0 ?xp0 ?xw0 ?xz0 ?xo0 ?xu0 ?xca0 ?xcb0 ?xcc0 ?xcd0 ?xn0_R1 ?xq0_R1 ?xa0_0 ?xb0_0 ?xsc0 ?xss0 ?xst0) ?pf
    (case ca0 => k_is)
    (case a0 => k_is)
    (case l0 => k_is)
    (case c0 => k_is)
    (case k0 => k_is)
    (case a1 => k_is)
    (case l1 => k_is)
    (case c1 => k_is)
    (case k1 => k_is)
    (case a2 => k_is)
    (case l2 => k_is)
    (case c2 => k_is)
    (case k2 => k_is)
    (case a3 => k_is)
    (case l3 => k_is)
    (case c3 => k_is)
    (case k3 => k_is)
    (case a4 => k_is)
    (case l4 => k_is)
    (case c4 => k_is)
    (case k4 => k_is)
    (case a5 => k_is)
    (case l5 => k_is)
    (case c5 => k_is)
    (case k5 => k_is)
    (case a6 => k_is)
    (case l6 => k_is)
    (case c6 => k_is)
    (case k6 => k_is)
    (case a7 => k_is)
    (case l7 => k_is)
    (case c7 => k_is)
    (case k7 => k_is)
    (case a8 => k_is)
    (case i8 => k_is)
    (case l8 => k_is)
    (case c8 => k_is)
    (case k8 => k_is)
    (case a9 => k_is)
    (case i9 => k_is)
    (case l9 => k_is)
    (case c9 => k_is)
    (case k9 => k_is)
    (case a10 => k_is)
    (case i10 => k_is)
    (case l10 => k_is)
    (case c10 => k_is)
    (case k10 => k_is)
    (case a11 => k_is)
    (case l11 => k_is)
    (case c11 => k_is)
    (case k11 => k_is)
    (case a12 => k_is)
    (case l12 => k_is)
    (case c12 => k_is)
    (case k12 => k_is)
    (case a13 => k_is)
    (case l13 => k_is)
    (case c13 => k_is)
    (case k13 => k_is)
    (case a14 => k_is)
    (case l14 => k_is)
    (case c14 => k_is)
    (case k14 => k_is)
    (case a15 => k_is)
    (case l15 => k_is)
    (case c15 => k_is)
    (case k15 => k_is)
    (case a16 => k_is)
    (case l16 => k_is)
    (case c16 => k_is)
    (case k16 => k_is)
    (case a17 => k_is)
    (case l17 => k_is)
    (case c17 => k_is)
    (case k17 => k_is)
    (case a18 => k_is)
    (case l18 => k_is)
    (case c18 => k_is)
    (case k18 => k_is)
    (case a19 => k_is)
    (case l19 => k_is)
    (case c19 => k_is)
    (case k19 => k_is)
    (case a20 => k_is)
    (case l20 => k_is)
    (case c20 => k_is)
    (case k20 => k_is)
    (case a21 => k_is)
    (case l21 => k_is)
    (case c21 => k_is)
    (case k21 => k_is)
    (case a22 => k_is)
    (case l22 => k_is)
    (case c22 => k_is)
    (case k22 => k_is)
    (case a23 => k_is)
    (case l23 => k_is)
    (case c23 => k_is)
    (case k23 => k_is)
    (case a24 => k_is)
    (case l24 => k_is)
    (case c24 => k_is)
    (case k24 => k_is)
    (case a25 => k_is)
    (case l25 => k_is)
    (case c25 => k_is)
    (case k25 => k_is)
    (case a26 => k_is)
    (case l26 => k_is)
    (case c26 => k_is)
    (case k26 => k_is)
    (case a27 => k_is)
    (case l27 => k_is)
    (case c27 => k_is)
    (case k27 => k_is)
    (case a28 => k_is)
    (case l28 => k_is)
    (case c28 => k_is)
    (case k28 => k_is)
    (case a29 => k_is)
    (case l29 => k_is)
    (case c29 => k_is)
    (case k29 => k_is)
    (case a30 => k_is)
    (case l30 => k_is)
    (case c30 => k_is)
    (case k30 => k_is)
    (case a31 => k_is)
    (case l31 => k_is)
    (case c31 => k_is)
    (case k31 => k_is)
    (case a32 => k_is)
    (case l32 => k_is)
    (case c32 => k_is)
    (case k32 => k_is)
    (case z0 => k_is)
    (case z1 => k_is)
    (case z2 => k_is)
    (case z3 => k_is)
    (case z4 => k_is)
    (case z5 => k_is)
    (case z6 => k_is)
    (case z7 => k_is)
    (case z8 => k_is)
    (case z9 => k_is)
    (case z10 => k_is)
    (case z11 => k_is)
    (case y0 => k_is)
    (case x0 => exact ⟨_, rfl⟩)
    (case y1 => k_is)
    (case x1 => exact ⟨_, rfl⟩)
    (case y2 => k_is)
    (case x2 => exact ⟨_, rfl⟩)
    (case da0 => k_is)
    (case dl0 => k_is)
    (case dk0 => k_keys)
    (case dw0 => rfl)
    (case dv0_0 => k_is)
    (case dv0_1 => k_is)
    (case dv0_2 => k_is)
    (case dv0_3 => k_is)
    (case dv0_4 => k_is)
    (case cg0 => k_is)
    (case ch0 => k_is)
    (case co0 => k_is)
    (case cs0 => k_is)
    (case cf0_0 => k_is)
    (case cm0 => k_is)
    (case ck0 => k_is)
    (case xa0 => k_is)
    (case ra0 => k_is)
    (case rb0 => k_is)
    (case rc0 => k_is)
    (case ra1 => k_is)
    (case rb1 => k_is)
    (case rc1 => k_is)
    (case xL0 => k_is)
    (case xr0 => first | rfl | decide +kernel)
    (case xs0 => k_is)
    (case xg0 => k_is)
    (case xh0 => k_is)
    (case xf0 => k_is)
    (case xi0 => k_is)
    (case xt0 => k_is)
    (case xl0 => k_is)
    (case xd0 => k_is)
    (case xe0 => k_is)
    (case xv0 => rfl)
    (case xc0 => k_is)
    (case xk0 => k_is)
    (case xb0 => k_is)
    (case xy0 => k_is)
    (case xj0 => k_is)
    (case xp0 => ks_is)
    (case xw0 => k_is)
    (case xz0 => k_is)
    (case xo0 => k_is)
    (case xu0 => k_is)
    (case xca0 => k_is)
    (case xcb0 => k_is)
    (case xcc0 => k_is)
    (case xcd0 => k_is)
    (case xn0_R1 => k_is)
    (case xq0_R1 => rfl)
    (case xa0_0 => k_is)
    (case xb0_0 => rfl)
    (case xsc0 => k_is)
    (case xss0 => k_is)
    (case xst0 => k_is)
    (case pf => exact ⟨by first | rfl | decide +kernel, by first | rfl | decide +kernel⟩)
