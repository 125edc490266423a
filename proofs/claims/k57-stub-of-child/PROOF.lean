import PyProof.Rows.All
import Wide.All
import OpenK.AllK
import Wide.FinOn
import HandS.ForMost
import HandS.Flow
import HandS.IsInst
import HandS.Wide
import HandS.Walk
import PyProof.Rows.IntBool
import HandS.Property
import HandS.Star
import HandS.OwnEq
import HandS.SetFor
import KE.GoesEnum
import KE.GoesMore
import HandS.Strs
import HandS.Deep
import HandS.TupAny
import KE.KRevSl
import KE.KOpsOwn
import HandS.ForExc
import HandS.FStr
import HandS.ExcField
import HandS.ExcIs
import HandS.ExcSuper
import KE.KExcSuper
import KE.KExcIs
import HandS.OwnIter
import HandS.IterNext
import HandS.Text
import HandS.Zip
import HandS.HotCalls
import PyProof.ReprRoads
import HandS.Ends
import PyProof.AutoSeq1
import HandS.IterVal
import OpenK.KMake
import HandS.Defaults
import HandS.NoneIn
import HandS.Style
import HandS.ClsMeth
import HandS.DictComp
import HandS.WideBits
import HandS.Finally
import KE.KMethU
import HandS.MakeKwOnly
import HandS.TryMany
import PyProof.ListStr
import PySem.Challenge.RW_drawnanew_k57_stub_of_child
set_option Elab.async false
set_option linter.all false
set_option maxRecDepth 100000
set_option maxHeartbeats 4000000
/-! XBase: readings that compute, over the hand layer; the heap cut into a part that only grows and cells that change. -/
namespace XL
open PySem PySem.Spec PyProof.Rows L2
abbrev St := L2.St

/-! ### a reading may be exchanged for a stronger one -/
theorem pe_str {X : Cx} {e : Expr} {t t' : TE} (h : PE X e t) (k : ∀ σ H Q, t' σ H Q → t σ H Q) : PE X e t' := ⟨fun pins s σ H Q I q => h.run pins s σ H Q I (k σ H Q q)⟩
theorem pt_str {X : Cx} {e : Expr} {t t' : TT} (h : PT X e t) (k : ∀ σ H Q, t' σ H Q → t σ H Q) : PT X e t' := ⟨fun pins s σ H Q I q => h.run pins s σ H Q I (k σ H Q q)⟩
theorem ps_str {X : Cx} {e : Stmt} {t t' : TS} (h : PS X e t) (k : ∀ D σ H, t' D σ H → t D σ H) : PS X e t' := ⟨fun pins s σ H D I q => h.run pins s σ H D I (k D σ H q)⟩
theorem or_str {X : Cx} {f : Value → Value → Sem Value} {r r' : R2} (h : OpR X f r) (k : ∀ x y H Q, r' x y H Q → r x y H Q) : OpR X f r' := fun pins s σ H x y v u Q I rx ry q => h pins s σ H x y v u Q I rx ry (k x y H Q q)
theorem cr_str {X : Cx} {f : Value} {r r' : List V → Hp → VK → Prop} (h : CallR X f r) (k : ∀ xs H Q, r' xs H Q → r xs H Q) : CallR X f r' := fun pins s σ H xs us Q I rx q => h pins s σ H xs us Q I rx (k xs H Q q)
theorem OpR.or {X : Cx} {f : Value → Value → Sem Value} {r r' : R2} (h : OpR X f r) (h' : OpR X f r') : OpR X f (fun x y H Q => r x y H Q ∨ r' x y H Q) := by
  intro pins s σ H x y v u Q I rx ry q
  rcases q with q | q
  · exact h pins s σ H x y v u Q I rx ry q
  · exact h' pins s σ H x y v u Q I rx ry q

/-! ### names -/
def nth : St → Nat → Option V
  | [], _ => none
  | x :: _, 0 => x
  | _ :: r, n + 1 => nth r n
theorem nth_get : ∀ {σ : St} {i : Nat} {v : V}, nth σ i = some v → σ[i]? = some (some v)
  | [], _, _, h => nomatch h
  | _ :: _, 0, _, h => congrArg some h
  | _ :: r, n + 1, _, h => by
    rw [List.getElem?_cons_succ]
    exact nth_get (σ := r) h
def xVar (i : Nat) : TE := fun σ H Q => match nth σ i with
  | some v => Q v H
  | none => False
section
variable {X : Cx} {a b c : Expr} {ta tb tc : TE} {pos : Pos} {tA tB' : TT} {rest : List Expr}
theorem xv (i : Nat) {x : Str} {pos : Pos} (hN : X.N[i]? = some x := by rfl) (hv : Vis X.env.scope x := by first | exact Or.inl rfl | exact Or.inr (Or.inl rfl) | exact Or.inr (Or.inr rfl)) (hd : (x == ("__debug__" : Str)) = false := by decide)
    (hcd : (x == ("__classdict__" : Str)) = false := by decide) : PE X (.Name x pos) (xVar i) := pe_str (pe_var hN hv hd hcd) fun σ H Q h => by
  unfold xVar at h
  cases e : nth σ i with
  | none => rw [e] at h; exact h.elim
  | some v => rw [e] at h; exact ⟨v, nth_get e, h⟩

/-! ### arithmetic -/
theorem op_mul_ib : OpR X (binaryOp .Mult) (fun x y H Q => ∃ i k, x = .int i ∧ y = .bl k ∧ Q (.int (i * b2i k)) H) := by
  intro pins s σ H x y v u Q I rx ry h
  obtain ⟨i, k, rfl, rfl, q⟩ := h
  obtain ⟨t, rfl⟩ := rx
  cases ry
  refine PySem.IntBool.mul_int_bool ?_
  have e : (if k = true then (1 : Int) else 0) = b2i k := by cases k <;> rfl
  rw [e]
  exact ⟨.int (i * b2i k), H, I.tok _, ⟨_, rfl⟩, q⟩
def yAdd : R2 := fun x y H Q => match x, y with
  | .int i, .int j => Q (.int (i + j)) H
  | .int i, .bl k => Q (.int (i + b2i k)) H
  | .str a, .str b => a.length + b.length ≤ sizeLine ∧ ∀ r : Str, r = a ++ b → Q (.str r) H
  | .ref l, .ref b => rCat (.ref l) (.ref b) H Q
  | _, _ => False
theorem op_addY : OpR X (binaryOp .Add) yAdd := by
  refine or_str (OpR.or (op_add (X := X)) (OpR.or (op_add_ib (X := X)) (OpR.or (op_add_str (X := X)) (op_cat (X := X))))) fun x y H Q h => ?_
  unfold yAdd at h
  split at h
  · exact .inl ⟨_, _, rfl, rfl, h⟩
  · exact .inr (.inl ⟨_, _, rfl, rfl, h⟩)
  · exact .inr (.inr (.inl ⟨_, _, rfl, rfl, h.1, h.2 _ rfl⟩))
  · exact .inr (.inr (.inr h))
  · exact h.elim
def ySub : R2 := fun x y H Q => match x, y with
  | .int i, .int j => Q (.int (i - j)) H
  | _, _ => False
theorem op_subY : OpR X (binaryOp .Sub) ySub := by
  refine or_str (op_sub (X := X)) fun x y H Q h => ?_
  unfold ySub at h
  split at h
  · exact ⟨_, _, rfl, rfl, h⟩
  · exact h.elim
def yMul : R2 := fun x y H Q => match x, y with
  | .int i, .int j => CMul i j ∧ Q (.int (i * j)) H
  | .int i, .bl k => Q (.int (i * b2i k)) H
  | .ref l, .int k => rRep (.ref l) (.int k) H Q
  | _, _ => False
theorem op_mulY : OpR X (binaryOp .Mult) yMul := by
  refine or_str (OpR.or (op_mul (X := X)) (OpR.or (op_mul_ib (X := X)) (op_rep (X := X)))) fun x y H Q h => ?_
  unfold yMul at h
  split at h
  · exact .inl ⟨_, _, rfl, rfl, h.1, h.2⟩
  · exact .inr (.inl ⟨_, _, rfl, rfl, h⟩)
  · exact .inr (.inr h)
  · exact h.elim
def yMod : R2 := fun x y H Q => match x, y with
  | .int i, .int j => 0 < j ∧ ∀ r : Int, r = i % j → 0 ≤ r → r < j → Q (.int r) H
  | _, _ => False
theorem op_modY : OpR X (binaryOp .Mod) yMod := by
  refine or_str (op_mod (X := X)) fun x y H Q h => ?_
  unfold yMod at h
  split at h
  · exact ⟨_, _, rfl, rfl, h.1, h.2 _ rfl (Int.emod_nonneg _ (by have := h.1; omega)) (Int.emod_lt_of_pos _ h.1)⟩
  · exact h.elim
def yDiv : R2 := fun x y H Q => match x, y with
  | .int i, .int j => (0 < j ∧ j < 1073741824) ∧ ∀ r : Int, r = i / j → (0 ≤ i → 0 ≤ r) → Q (.int r) H
  | _, _ => False
theorem op_divY : OpR X (binaryOp .FloorDiv) yDiv := by
  refine or_str (op_fdiv (X := X)) fun x y H Q h => ?_
  unfold yDiv at h
  split at h
  · exact ⟨_, _, rfl, rfl, h.1, h.2 _ rfl (fun h0 => Int.ediv_nonneg h0 (by have := h.1.1; omega))⟩
  · exact h.elim
def yPow : R2 := fun x y H Q => match x, y with
  | .int i, .int j => CPow i j ∧ ∀ r : Int, r = i ^ j.toNat → Q (.int r) H
  | _, _ => False
theorem op_powY : OpR X (binaryOp .Pow) yPow := by
  refine or_str (op_pow (X := X)) fun x y H Q h => ?_
  unfold yPow at h
  split at h
  · exact ⟨_, _, rfl, rfl, h.1, h.2 _ rfl⟩
  · exact h.elim

/-! ### comparisons -/
def yCmp (p : Int → Int → Bool) : R2 := fun x y H Q => match x, y with
  | .int i, .int j => Q (.bl (p i j)) H
  | _, _ => False
theorem yCmp_rI {p : Int → Int → Bool} {x y : V} {H : Hp} {Q : VK} (h : yCmp p x y H Q) : rI0 (fun i j => .bl (p i j)) x y H Q := by
  unfold yCmp at h
  split at h
  · exact ⟨_, _, rfl, rfl, h⟩
  · exact h.elim
theorem op_ltY : OpR X (compareOp .Lt) (yCmp fun i j => decide (i < j)) := or_str (op_lt (X := X)) fun _ _ _ _ h => yCmp_rI h
theorem op_leY : OpR X (compareOp .LtE) (yCmp fun i j => decide (i ≤ j)) := or_str (op_le (X := X)) fun _ _ _ _ h => yCmp_rI h
theorem op_gtY : OpR X (compareOp .Gt) (yCmp fun i j => decide (j < i)) := or_str (op_gt (X := X)) fun _ _ _ _ h => yCmp_rI h
theorem op_geY : OpR X (compareOp .GtE) (yCmp fun i j => decide (j ≤ i)) := or_str (op_ge (X := X)) fun _ _ _ _ h => yCmp_rI h
def yEq (K : PySem.W.Frag) : R2 := fun x y H Q => match x, y with
  | .int i, .int j => Q (.bl (decide (i = j))) H
  | .str i, .str j => Q (.bl (decide (i = j))) H
  | .bl i, .bl j => Q (.bl (decide (i = j))) H
  | .ref a, .ref b => rEqD K (.ref a) (.ref b) H Q
  | x, y => scal x y = true ∧ Q (.bl (decide (x = y))) H
def yNe (K : PySem.W.Frag) : R2 := fun x y H Q => match x, y with
  | .int i, .int j => Q (.bl (!decide (i = j))) H
  | .str i, .str j => Q (.bl (!decide (i = j))) H
  | .bl i, .bl j => Q (.bl (!decide (i = j))) H
  | .ref a, .ref b => rNeD K (.ref a) (.ref b) H Q
  | x, y => scal x y = true ∧ Q (.bl (!decide (x = y))) H
theorem deci {i j : Int} : decide (V.int i = V.int j) = decide (i = j) := by by_cases h : i = j <;> simp [h]
theorem decs {i j : Str} : decide (V.str i = V.str j) = decide (i = j) := by by_cases h : i = j <;> simp [h]
theorem decb {i j : Bool} : decide (V.bl i = V.bl j) = decide (i = j) := by by_cases h : i = j <;> simp [h]
theorem op_eqY (hu : X.A.units + 64 < cLine) : OpR X (compareOp .Eq) (yEq X.K) := by
  refine or_str (OpR.or (op_eq (X := X)) (op_eqD hu)) fun x y H Q h => ?_
  unfold yEq at h
  split at h
  · exact .inl ⟨rfl, by rw [deci]; exact h⟩
  · exact .inl ⟨rfl, by rw [decs]; exact h⟩
  · exact .inl ⟨rfl, by rw [decb]; exact h⟩
  · exact .inr h
  · exact .inl h
theorem op_neY (hu : X.A.units + 64 < cLine) : OpR X (compareOp .NotEq) (yNe X.K) := by
  refine or_str (OpR.or (op_ne (X := X)) (op_neD hu)) fun x y H Q h => ?_
  unfold yNe at h
  split at h
  · exact .inl ⟨rfl, by rw [deci]; exact h⟩
  · exact .inl ⟨rfl, by rw [decs]; exact h⟩
  · exact .inl ⟨rfl, by rw [decb]; exact h⟩
  · exact .inr h
  · exact .inl h

/-! ### tests -/
/-- a bool as a test -/
def xB (t : TE) : TT := fun σ H Q => t σ H fun x H1 => match x with
  | .bl c => Q c H1
  | _ => False
theorem pe_mono {X : Cx} {e : Expr} {t : TE} (_h : PE X e t) : True := trivial
theorem xt_cmp {op : CmpOp} {r : R2} (ho : OpR X (compareOp op) r) (ha : PE X a ta) (hb : PE X b tb) (hm : behindInMarks op b = false) : PT X (.Compare a [op] [b] pos) (xB (tOp r ta tb)) := by
  refine ⟨fun pins s σ H Q I h => ?_⟩
  refine wpAny_isTrue_Compare1 (thn (ha.run pins s σ H _ I h) fun v s1 ⟨x, H1, I1, r1, q1⟩ => thn (hb.run pins s1 σ H1 _ I1 q1) fun u s2 ⟨y, H2, I2, r2, q2⟩ =>
    thn (ho pins s2 σ H2 x y v u _ I2 r1 r2 q2) fun c s3 ⟨z, H3, I3, r3, q3⟩ => ?_) hm
  cases z with
  | bl k =>
    cases r3
    exact wpAny_truthy_bool ⟨H3, I3, q3⟩
  | _ => exact False.elim q3
theorem xt_val {e : Expr} {t : TE} (h : PE X e t) (he : ∀ whole, isTrue e X.env whole = (do let v ← whole; standAt e.pos; holding [v] (truthy v)) := by intro _; rfl) : PT X e (xB t) := by
  refine ⟨fun pins s σ H Q I hw => ?_⟩
  refine isTrue_plain (thn (h.run pins s σ H _ I hw) fun v s1 ⟨x, H1, I1, r1, q1⟩ => ?_) (he _)
  cases x with
  | bl k =>
    cases r1
    exact wpAny_truthy_bool ⟨H1, I1, q1⟩
  | _ => exact False.elim q1
/-- the truth of a value -/
def yTru (K : PySem.W.Frag) (x : V) (H : Hp) (Q : Bool → Hp → Prop) : Prop := match x with
  | .bl c => Q c H
  | .int i => Q (i != 0) H
  | .non => Q false H
  | x => ∃ k, TruV K x H k ∧ Q k H
def xTru (K : PySem.W.Frag) (t : TE) : TT := fun σ H Q => t σ H fun x H1 => yTru K x H1 Q
theorem xt_tru (ha : PE X a ta) (he : ∀ whole, isTrue a X.env whole = (do let v ← whole; standAt a.pos; holding [v] (truthy v)) := by intro _; rfl) : PT X a (xTru X.K ta) := by
  have hq : PE X a (fun σ H Q => ta σ H Q) := ha
  refine ⟨fun pins s σ H Q I hw => ?_⟩
  refine isTrue_plain (thn (ha.run pins s σ H _ I hw) fun v s1 ⟨x, H1, I1, r1, q1⟩ => ?_) (he _)
  have q2 : ∃ k, TruV X.K x H1 k ∧ Q k H1 := by
    change yTru X.K x H1 Q at q1
    unfold yTru at q1
    split at q1
    · exact ⟨_, rfl, q1⟩
    · exact ⟨_, rfl, q1⟩
    · exact ⟨_, rfl, q1⟩
    · exact q1
  exact tru_ok pins s1 σ H1 x v Q I1 r1 q2
def xAnd (t u : TT) : TT := fun σ H Q => t σ H fun c H1 => (c = true → u σ H1 Q) ∧ (c = false → Q false H1)
def xOr (t u : TT) : TT := fun σ H Q => t σ H fun c H1 => (c = true → Q true H1) ∧ (c = false → u σ H1 Q)
theorem xw_and (ha : PT X a tA) (hb : PW X (.BoolOp .And (b :: rest) pos) tB') : PW X (.BoolOp .And (a :: b :: rest) pos) (xAnd tA tB') := by
  refine ⟨fun wh pins s0 σ H Q J h => ?_⟩
  refine isTrue_and (thn (ha.run pins s0 σ H _ J h) fun k s2 ⟨H2, J2, q2⟩ => ?_)
  cases k with
  | true => exact hb.run wh pins s2 σ H2 Q J2 (q2.1 rfl)
  | false => exact ⟨H2, J2, q2.2 rfl⟩
theorem xw_or (ha : PT X a tA) (hb : PW X (.BoolOp .Or (b :: rest) pos) tB') : PW X (.BoolOp .Or (a :: b :: rest) pos) (xOr tA tB') := by
  refine ⟨fun wh pins s0 σ H Q J h => ?_⟩
  refine isTrue_or (thn (ha.run pins s0 σ H _ J h) fun k s2 ⟨H2, J2, q2⟩ => ?_)
  cases k with
  | true => exact ⟨H2, J2, q2.1 rfl⟩
  | false => exact hb.run wh pins s2 σ H2 Q J2 (q2.2 rfl)
/-- and, or, not as values: of bools -/
def xAndV (ta tb : TE) : TE := fun σ H Q => ta σ H fun x H1 => match x with
  | .bl c => (c = true → tb σ H1 Q) ∧ (c = false → Q (.bl false) H1)
  | _ => False
def xOrV (ta tb : TE) : TE := fun σ H Q => ta σ H fun x H1 => match x with
  | .bl c => (c = true → Q (.bl true) H1) ∧ (c = false → tb σ H1 Q)
  | _ => False
def xNotV (ta : TE) : TE := fun σ H Q => ta σ H fun x H1 => match x with
  | .bl c => Q (.bl (!c)) H1
  | _ => False
theorem xe_and (ha : PE X a ta) (hb : PE X (.BoolOp .And (b :: rest) pos) tb) : PE X (.BoolOp .And (a :: b :: rest) pos) (xAndV ta tb) := by
  refine ⟨fun pins s0 σ H Q J h => ?_⟩
  refine BoolOp_and (thn (ha.run pins s0 σ H _ J h) fun v s2 ⟨x, H2, J2, r2, q2⟩ => ?_)
  cases x with
  | bl k =>
    cases r2
    refine wpAny_truthy_bool ?_
    cases k with
    | true => exact hb.run pins s2 σ H2 Q J2 (q2.1 rfl)
    | false => exact ⟨.bl false, H2, J2, rfl, q2.2 rfl⟩
  | _ => exact False.elim q2
theorem xe_or (ha : PE X a ta) (hb : PE X (.BoolOp .Or (b :: rest) pos) tb) : PE X (.BoolOp .Or (a :: b :: rest) pos) (xOrV ta tb) := by
  refine ⟨fun pins s0 σ H Q J h => ?_⟩
  refine BoolOp_or (thn (ha.run pins s0 σ H _ J h) fun v s2 ⟨x, H2, J2, r2, q2⟩ => ?_)
  cases x with
  | bl k =>
    cases r2
    refine wpAny_truthy_bool ?_
    cases k with
    | true => exact ⟨.bl true, H2, J2, rfl, q2.1 rfl⟩
    | false => exact hb.run pins s2 σ H2 Q J2 (q2.2 rfl)
  | _ => exact False.elim q2
theorem xe_not (ha : PE X a ta) : PE X (.UnaryOp .Not a pos) (xNotV ta) := by
  refine ⟨fun pins s0 σ H Q J h => ?_⟩
  refine UnaryOp_ (thn (ha.run pins s0 σ H _ J h) fun v s2 ⟨x, H2, J2, r2, q2⟩ => ?_)
  cases x with
  | bl k =>
    cases r2
    exact not_of (wpAny_truthy_bool ⟨.bl (!k), H2, J2, rfl, q2⟩)
  | _ => exact False.elim q2
/-- a if t else b -/
def xIf (t : TT) (ta tb : TE) : TE := fun σ H Q => t σ H fun c H1 => (c = true → ta σ H1 Q) ∧ (c = false → tb σ H1 Q)
theorem xe_if {c : Expr} (hc : PT X c tA) (ha : PE X a ta) (hb : PE X b tb) : PE X (.IfExp c a b pos) (xIf tA ta tb) := by
  refine ⟨fun pins s0 σ H Q J h => ?_⟩
  refine wpAny_IfExp (thn (hc.run pins s0 σ H _ J h) fun k s2 ⟨H2, J2, q2⟩ => ?_)
  cases k with
  | true => exact ha.run pins s2 σ H2 Q J2 (q2.1 rfl)
  | false => exact hb.run pins s2 σ H2 Q J2 (q2.2 rfl)
/-- if t: .. else: .. -/
def xIfS (c : TT) (t u : TS) : TS := fun D σ H => c σ H fun b H1 => (b = true → t D σ H1) ∧ (b = false → u D σ H1)
theorem xs_if {c : Expr} {as bs : List Stmt} {tc : TT} {t u : TS} (hc : PT X c tc) (ha : PSs X as t) (hb : PSs X bs u) : PS X (.If c as bs pos) (xIfS tc t u) := by
  refine ⟨fun pins s0 σ H D J h => ?_⟩
  refine wpAny_If (thn (hc.run pins s0 σ H _ J h) fun k s2 ⟨H2, J2, q2⟩ => ?_)
  cases k with
  | true => exact ha.run pins s2 σ H2 D J2 (q2.1 rfl)
  | false => exact hb.run pins s2 σ H2 D J2 (q2.2 rfl)

/-! ### calls of built-ins -/
def yLen (K : PySem.W.Frag) : List V → Hp → VK → Prop := fun xs H Q => match xs with
  | [.str y] => y.length ≤ sizeLine ∧ Q (.int y.length) H
  | [.ref p] => ∃ ys, (SqL K H p ys ∨ SqT K H p ys) ∧ Q (.int ys.length) H
  | _ => False
theorem cr_len : CallR X (.builtin "len") (yLen X.K) := by
  refine cr_str (call_len (X := X)) fun xs H Q h => ?_
  unfold yLen at h
  split at h
  · exact ⟨_, _, rfl, ⟨h.1, rfl⟩, h.2⟩
  · obtain ⟨ys, hy, q⟩ := h
    rcases hy with hy | hy
    · exact ⟨_, _, rfl, .inl ⟨ys, hy, rfl⟩, q⟩
    · exact ⟨_, _, rfl, .inr ⟨ys, hy, rfl⟩, q⟩
  · exact h.elim
def yInt : List V → Hp → VK → Prop := fun xs H Q => match xs with
  | [.int i] => Q (.int i) H
  | [.bl k] => Q (.int (if k then 1 else 0)) H
  | [.str z] => ∃ n, PySem.intText? z = some n ∧ z.length ≤ 640 ∧ Q (.int n) H
  | _ => False
theorem cr_int : CallR X (.type "int") yInt := by
  refine cr_str (CallR.or (call_int1 (X := X)) (call_int_str (X := X))) fun xs H Q h => ?_
  unfold yInt at h
  split at h
  · exact .inl (.inl ⟨_, rfl, h⟩)
  · exact .inl (.inr ⟨_, rfl, h⟩)
  · obtain ⟨n, h1, h2, q⟩ := h
    exact .inr ⟨_, n, rfl, h1, h2, q⟩
  · exact h.elim
def yAbs : List V → Hp → VK → Prop := fun xs H Q => match xs with
  | [.int i] => Q (.int i.natAbs) H
  | _ => False
theorem cr_abs : CallR X (.builtin "abs") yAbs := by
  refine cr_str (call_abs (X := X)) fun xs H Q h => ?_
  unfold yAbs at h
  split at h
  · rename_i i
    refine ⟨i, rfl, ?_⟩
    have e : (if i < 0 then -i else i) = (i.natAbs : Int) := by split <;> omega
    rw [e]
    exact h
  · exact h.elim
def yStr : List V → Hp → VK → Prop := fun xs H Q => match xs with
  | [.int i] => i.natAbs.log2 < 1920 ∧ Q (.str (toString i)) H
  | _ => False
theorem cr_strI : CallR X (.type "str") yStr := by
  refine cr_str (call_str_int (X := X)) fun xs H Q h => ?_
  unfold yStr at h
  split at h
  · exact ⟨_, rfl, h.1, h.2⟩
  · exact h.elim
def yIx (K : PySem.W.Frag) : R2 := fun x y H Q => match x, y with
  | .ref p, .int i => ∃ xs v, (SqL K H p xs ∨ SqT K H p xs) ∧ atI xs i = some v ∧ Q v H
  | .str z, .int i => ∃ c, z.length ≤ sizeLine ∧ atI z.cps.toList i = some c ∧ Q (.str ⟨#[c]⟩) H
  | _, _ => False
theorem ix_y : IxR X (yIx X.K) := by
  intro value slice pins s σ H x y v u Q I rx ry h hs
  refine ix_seq (X := X) value slice pins s σ H x y v u Q I rx ry ?_ hs
  unfold yIx at h
  split at h
  · obtain ⟨xs, z, h1, h2, q⟩ := h
    rcases h1 with h1 | h1
    · exact .inl ⟨_, xs, _, z, rfl, rfl, h1, h2, q⟩
    · exact .inr (.inl ⟨_, xs, _, z, rfl, rfl, h1, h2, q⟩)
  · obtain ⟨k, h1, h2, q⟩ := h
    exact .inr (.inr ⟨_, _, k, rfl, rfl, h1, h2, q⟩)
  · exact h.elim
end

/-! ### the heap: what only grows, and the cells that change -/
def Sep (G : Hp) (M : List (Addr × HO)) (H : Hp) : Prop := Same G H ∧ (∀ p ∈ M, H p.1 = some p.2 ∧ G p.1 = none) ∧ (M.map (·.1)).Nodup
section
variable {G G' H H' : Hp} {M : List (Addr × HO)} {p a b : Addr} {o o' u : HO}
theorem same_upd (h : H p = none) : Same H (upd H p o) := fun b x e => by
  rw [upd_ne (ne_of_none e h)]
  exact e
theorem sep0 : Sep H [] H := ⟨Same.refl H, (fun _ h => nomatch h), List.nodup_nil⟩
theorem Sep.st (S : Sep G M H) (h : G a = some o) : H a = some o := S.1 a o h
theorem Sep.hd (S : Sep G ((a, o) :: M) H) : H a = some o := (S.2.1 _ List.mem_cons_self).1
theorem Sep.at (S : Sep G M H) (h : (a, o) ∈ M) : H a = some o := (S.2.1 _ h).1
theorem Sep.fresh (S : Sep G M H) (h : H p = none) : G p = none := S.1.free h
theorem Sep.new (S : Sep G M H) (h : H p = none) : Sep G ((p, o) :: M) (upd H p o) := by
  refine ⟨S.1.trans (same_upd h), fun q hq => ?_, ?_⟩
  · rcases List.mem_cons.mp hq with rfl | hq
    · exact ⟨upd_same, S.fresh h⟩
    · exact ⟨same_upd h _ _ (S.2.1 q hq).1, (S.2.1 q hq).2⟩
  · rw [List.map_cons, List.nodup_cons]
    refine ⟨fun hm => ?_, S.2.2⟩
    obtain ⟨q, hq, e⟩ := List.mem_map.mp hm
    have z := (S.2.1 q hq).1
    rw [e, h] at z
    cases z
theorem Sep.newG (S : Sep G M H) (h : H p = none) : Sep (upd G p o) M (upd H p o) := by
  refine ⟨fun b x e => ?_, fun q hq => ?_, S.2.2⟩
  · by_cases hb : b = p
    · subst hb
      rw [upd_same] at e ⊢
      exact e
    · rw [upd_ne hb] at e ⊢
      exact S.1 b x e
  · have z := S.2.1 q hq
    refine ⟨same_upd h _ _ z.1, ?_⟩
    rw [upd_ne (ne_of_none z.1 h)]
    exact z.2
theorem Sep.grow (S : Sep G M H) (h : H p = none) : Same G (upd G p o) := same_upd (S.fresh h)
theorem Sep.set (S : Sep G ((a, o) :: M) H) : Sep G ((a, o') :: M) (upd H a o') := by
  have hn := S.2.2
  rw [List.map_cons, List.nodup_cons] at hn
  have ha := S.2.1 _ List.mem_cons_self
  refine ⟨fun b x e => ?_, fun q hq => ?_, S.2.2⟩
  · rw [upd_ne (ne_of_none e ha.2)]
    exact S.1 b x e
  · rcases List.mem_cons.mp hq with rfl | hq
    · exact ⟨upd_same, ha.2⟩
    · refine ⟨?_, (S.2.1 q (List.mem_cons_of_mem _ hq)).2⟩
      rw [upd_ne (show q.1 ≠ a from fun e => hn.1 (by have z : q.1 ∈ M.map (·.1) := List.mem_map_of_mem hq
                                                      rw [e] at z; exact z))]
      exact (S.2.1 q (List.mem_cons_of_mem _ hq)).1
theorem Sep.frz (S : Sep G ((a, o) :: M) H) : Sep (upd G a o) M H := by
  have hn := S.2.2
  rw [List.map_cons, List.nodup_cons] at hn
  have ha := S.2.1 _ List.mem_cons_self
  refine ⟨fun b x e => ?_, fun q hq => ?_, hn.2⟩
  · by_cases hb : b = a
    · subst hb
      rw [upd_same] at e
      cases e
      exact ha.1
    · rw [upd_ne hb] at e
      exact S.1 b x e
  · have z := S.2.1 q (List.mem_cons_of_mem _ hq)
    refine ⟨z.1, ?_⟩
    rw [upd_ne (show q.1 ≠ a from fun e => hn.1 (by have z : q.1 ∈ M.map (·.1) := List.mem_map_of_mem hq
                                                    rw [e] at z; exact z))]
    exact z.2
theorem Sep.none (S : Sep G ((a, o) :: M) H) : G a = none := (S.2.1 _ List.mem_cons_self).2
theorem Sep.frzS (S : Sep G ((a, o) :: M) H) : Same G (upd G a o) := same_upd S.none
theorem Sep.drop {q : Addr × HO} (S : Sep G (q :: M) H) : Sep G M H := by
  have hn := S.2.2
  rw [List.map_cons, List.nodup_cons] at hn
  exact ⟨S.1, fun p hp => S.2.1 p (List.mem_cons_of_mem _ hp), hn.2⟩
theorem Sep.perm {M' : List (Addr × HO)} (S : Sep G M H) (h : M.Perm M') : Sep G M' H :=
  ⟨S.1, fun q hq => S.2.1 q (h.mem_iff.mpr hq), (h.map _).nodup_iff.mp S.2.2⟩
theorem Sep.sw {q r : Addr × HO} (S : Sep G (q :: r :: M) H) : Sep G (r :: q :: M) H := S.perm (List.Perm.swap _ _ _)
theorem same_l {K : PySem.W.Frag} {xs : List V} (e : Same H H') (h : SqL K H a xs) : SqL K H' a xs := e.seq h
theorem same_t {K : PySem.W.Frag} {xs : List V} (e : Same H H') (h : SqT K H a xs) : SqT K H' a xs := by
  rcases h with (h | ⟨o, h⟩) | h
  · exact .inl (.inl (e _ _ h))
  · exact .inl (.inr ⟨o, e _ _ h⟩)
  · exact .inr h
theorem Sep.l {K : PySem.W.Frag} {xs : List V} (S : Sep G M H) (h : SqL K G a xs) : SqL K H a xs := same_l S.1 h
theorem Sep.t {K : PySem.W.Frag} {xs : List V} (S : Sep G M H) (h : SqT K G a xs) : SqT K H a xs := same_t S.1 h
end
mutual
theorem dp_same {K : PySem.W.Frag} {H H' : Hp} (e : Same H H') : ∀ {d : PyData} {v : V}, Dp K H v d → Dp K H' v d
  | _, _, .non => .non
  | _, _, .bl b => .bl b
  | _, _, .int i => .int i
  | _, _, .str x => .str x
  | _, _, .lst h hs => .lst (same_l e h) (dpa_same e hs)
  | _, _, .tup h hs => .tup (same_t e h) (dpa_same e hs)
theorem dpa_same {K : PySem.W.Frag} {H H' : Hp} (e : Same H H') : ∀ {ds : List PyData} {vs : List V}, DpAll K H vs ds → DpAll K H' vs ds
  | _, _, .nil => .nil
  | _, _, .cons h hs => .cons (dp_same e h) (dpa_same e hs)
end

/-! ### loops by what has been gone through -/
theorem take_pre {α : Type} {xs : List α} {i : Nat} {x : α} (h : xs[i]? = some x) : xs = xs.take i ++ x :: xs.drop (i + 1) ∧ xs.take (i + 1) = xs.take i ++ [x] := by
  have hi : i < xs.length := (List.getElem?_eq_some_iff.mp h).1
  have e : xs[i] = x := (List.getElem?_eq_some_iff.mp h).2
  refine ⟨?_, ?_⟩
  · rw [← e, List.getElem_cons_drop, List.take_append_drop]
  · rw [List.take_add_one, h]
    rfl
section
variable {K : PySem.W.Frag} {a : Addr} {xs : List V} {g : TG} {tb : TS} {D : Ends} {σ : L2.St} {H : Hp}
theorem for_pre (Pv : List V → L2.St → Hp → Prop) (h0 : Pv [] σ H) (hl : ∀ pre σ H, Pv pre σ H → SqL K H a xs)
    (hs : ∀ pre x post σ H, xs = pre ++ x :: post → Pv pre σ H → g x σ H fun σ2 H2 => tb { D with nx := Pv (pre ++ [x]), ct := Pv (pre ++ [x]), bk := D.nx } σ2 H2) (hd : ∀ σ H, Pv xs σ H → D.nx σ H) :
    ∃ W : Nat → Nat → L2.St → Hp → Prop, (∃ m, W 0 m σ H) ∧ ∀ i m σ H, W i m σ H →
      ((Itl K a).stop i H ∧ D.nx σ H) ∨ ((Itl K a).go i H ∧ ∃ N : L2.St → Hp → Prop, (∀ σ' H', N σ' H' → ∃ m', m' < m ∧ W (i + 1) m' σ' H') ∧ ∀ x H', (Itl K a).yld i H x H' → g x σ H' fun σ2 H2 => tb { D with nx := N, ct := N, bk := D.nx } σ2 H2) :=
  for_list (fun i => Pv (xs.take i)) h0 (fun i σ H _ p => hl _ σ H p) (fun i x σ H hx p => by
    rw [(take_pre hx).2]
    exact hs _ x _ σ H (take_pre hx).1 p) (fun σ H p => hd σ H (by rw [List.take_length] at p; exact p))
theorem for_preT (Pv : List V → L2.St → Hp → Prop) (h0 : Pv [] σ H) (hl : ∀ pre σ H, Pv pre σ H → SqT K H a xs)
    (hs : ∀ pre x post σ H, xs = pre ++ x :: post → Pv pre σ H → g x σ H fun σ2 H2 => tb { D with nx := Pv (pre ++ [x]), ct := Pv (pre ++ [x]), bk := D.nx } σ2 H2) (hd : ∀ σ H, Pv xs σ H → D.nx σ H) :
    ∃ W : Nat → Nat → L2.St → Hp → Prop, (∃ m, W 0 m σ H) ∧ ∀ i m σ H, W i m σ H →
      ((Itt K a).stop i H ∧ D.nx σ H) ∨ ((Itt K a).go i H ∧ ∃ N : L2.St → Hp → Prop, (∀ σ' H', N σ' H' → ∃ m', m' < m ∧ W (i + 1) m' σ' H') ∧ ∀ x H', (Itt K a).yld i H x H' → g x σ H' fun σ2 H2 => tb { D with nx := N, ct := N, bk := D.nx } σ2 H2) :=
  for_tup (fun i => Pv (xs.take i)) h0 (fun i σ H _ p => hl _ σ H p) (fun i x σ H hx p => by
    rw [(take_pre hx).2]
    exact hs _ x _ σ H (take_pre hx).1 p) (fun σ H p => hd σ H (by rw [List.take_length] at p; exact p))
/-- for i, x in enumerate(xs) -/
theorem for_enum {i j : Nat} (Pv : List V → L2.St → Hp → Prop) (h0 : Pv [] σ H) (hl : ∀ pre σ H, Pv pre σ H → SqL K H a xs)
    (hs : ∀ pre x post σ H T, xs = pre ++ x :: post → Pv pre σ H → H T = none →
      tb { D with nx := Pv (pre ++ [x]), ct := Pv (pre ++ [x]), bk := D.nx } ((σ.set i (some (.int (pre.length : Nat)))).set j (some x)) (upd H T (.tup [.int (pre.length : Nat), x]))) (hd : ∀ σ H, Pv xs σ H → D.nx σ H) :
    ∃ W : Nat → Nat → L2.St → Hp → Prop, (∃ m, W 0 m σ H) ∧ ∀ k m σ H, W k m σ H →
      ((Ite K a).stop k H ∧ D.nx σ H) ∨ ((Ite K a).go k H ∧ ∃ N : L2.St → Hp → Prop, (∀ σ' H', N σ' H' → ∃ m', m' < m ∧ W (k + 1) m' σ' H') ∧ ∀ x H', (Ite K a).yld k H x H' →
        (gTup K 2 (gCons (gName i) (gCons (gName j) gNil))) x σ H' fun σ2 H2 => tb { D with nx := N, ct := N, bk := D.nx } σ2 H2) := by
  refine ⟨fun k m σ H => m = xs.length - k ∧ k ≤ xs.length ∧ Pv (xs.take k) σ H, ⟨xs.length, by simp, Nat.zero_le _, h0⟩, ?_⟩
  rintro k m σ H ⟨rfl, hk, p⟩
  have q := hl _ σ H p
  by_cases hlt : k < xs.length
  · refine .inr ⟨⟨xs, xs[k], q, by simp [hlt]⟩, Pv (xs.take (k + 1)), fun σ' H' p' => ⟨xs.length - (k + 1), by omega, rfl, hlt, p'⟩, fun v H' y => ?_⟩
    obtain ⟨T, x, rfl, nT, rfl, hx⟩ := y
    have hx := hx xs q
    refine ⟨T, _, rfl, SqT.of upd_same, rfl, _, _, rfl, _, _, rfl, rfl, ?_⟩
    have z := hs _ x _ σ H T (take_pre hx).1 p nT
    rw [(take_pre hx).2]
    rw [show (xs.take k).length = k by rw [List.length_take]; omega] at z
    exact z
  · have e : k = xs.length := by omega
    subst e
    rw [List.take_length] at p
    exact .inl ⟨⟨xs, q, Nat.le_refl _⟩, hd σ H p⟩
/-- [e for x in xs] -/
theorem lc_pre {te : TE} {vs : List Nat} {i : Nat} {H1 : Hp} {L : Addr} {Qd : Hp → Prop} (Pv : List V → Hp → Prop) (h0 : Pv [] (upd H1 L (.lst []))) (hl : ∀ pre H, Pv pre H → SqL K H a xs)
    (hw : ∀ x, wipe ((wipe σ vs).set i (some x)) vs = wipe σ vs)
    (hs : ∀ pre x post H, xs = pre ++ x :: post → Pv pre H → te ((wipe σ vs).set i (some x)) H fun y H4 => ∃ acc, H4 L = some (.lst acc) ∧ acc.length < sizeLine ∧ Pv (pre ++ [x]) (upd H4 L (.lst (acc ++ [y])))) (hd : ∀ H, Pv xs H → Qd H) :
    ∃ W : Nat → Nat → Hp → Prop, (∃ m, W 0 m (upd H1 L (.lst []))) ∧ ∀ k m H, W k m H →
      ((Itl K a).stop k H ∧ Qd H) ∨ ((Itl K a).go k H ∧ ∃ Nx : Hp → Prop, (∀ H', Nx H' → ∃ m', m' < m ∧ W (k + 1) m' H') ∧ ∀ x H', (Itl K a).yld k H x H' → gName i x (wipe σ vs) H' fun σ2 H2 => wipe σ2 vs = wipe σ vs ∧ tYes σ2 H2 fun b H3 =>
        if b = true then te σ2 H3 fun y H4 => ∃ acc, H4 L = some (.lst acc) ∧ acc.length < sizeLine ∧ Nx (upd H4 L (.lst (acc ++ [y]))) else Nx H3) :=
  lc_list (fun k => Pv (xs.take k)) h0 (fun k H _ p => hl _ H p) (fun k x H hx p => ⟨hw x, by
    rw [(take_pre hx).2]
    exact hs _ x _ H (take_pre hx).1 p⟩) (fun H p => hd H (by rw [List.take_length] at p; exact p))
/-- [e for x in range(n)] -/
theorem lc_rng {te : TE} {vs : List Nat} {i : Nat} {n : Nat} {lo : Int} {H1 : Hp} {L : Addr} {Qd : Hp → Prop} (Pv : Nat → Hp → Prop) (h0 : Pv 0 (upd H1 L (.lst [])))
    (hw : ∀ x, wipe ((wipe σ vs).set i (some x)) vs = wipe σ vs)
    (hs : ∀ k H, k < n → Pv k H → te ((wipe σ vs).set i (some (.int (lo + k)))) H fun y H4 => ∃ acc, H4 L = some (.lst acc) ∧ acc.length < sizeLine ∧ Pv (k + 1) (upd H4 L (.lst (acc ++ [y])))) (hd : ∀ H, Pv n H → Qd H) :
    ∃ W : Nat → Nat → Hp → Prop, (∃ m, W 0 m (upd H1 L (.lst []))) ∧ ∀ k m H, W k m H →
      ((Itr lo n).stop k H ∧ Qd H) ∨ ((Itr lo n).go k H ∧ ∃ Nx : Hp → Prop, (∀ H', Nx H' → ∃ m', m' < m ∧ W (k + 1) m' H') ∧ ∀ x H', (Itr lo n).yld k H x H' → gName i x (wipe σ vs) H' fun σ2 H2 => wipe σ2 vs = wipe σ vs ∧ tYes σ2 H2 fun b H3 =>
        if b = true then te σ2 H3 fun y H4 => ∃ acc, H4 L = some (.lst acc) ∧ acc.length < sizeLine ∧ Nx (upd H4 L (.lst (acc ++ [y]))) else Nx H3) :=
  lc_range (lo := lo) (n := n) Pv h0 (fun k H hk p => ⟨hw _, hs k H hk p⟩) hd
end
/-! ### places of lists -/
theorem atI_in {α : Type} {xs : List α} {i : Int} (h0 : 0 ≤ i) (h1 : i < xs.length) : ∃ v, atI xs i = some v ∧ v ∈ xs := by
  obtain ⟨j, rfl⟩ : ∃ j : Nat, i = (j : Int) := ⟨i.toNat, by omega⟩
  have hj : j < xs.length := by omega
  exact ⟨xs[j], atI_nat (List.getElem?_eq_getElem hj), List.getElem_mem hj⟩
theorem small {n : Nat} (h : n ≤ 100000) : n ≤ sizeLine := Nat.le_trans h (by decide)
theorem smallL {n : Nat} (h : n < 100000) : n < sizeLine := Nat.lt_of_lt_of_le h (by decide)
theorem sz {n : Nat} (h : Nat.ble n 100000 = true := by rfl) : n ≤ sizeLine := small (Nat.le_of_ble_eq_true h)
theorem seqIdx {i : Int} {n : Nat} (h0 : 0 ≤ i) (h1 : i < n) : seqIndex? i n = some i.toNat := by
  unfold seqIndex?
  have e : (if i < 0 then i + n else i) = i := by rw [if_neg (by omega)]
  simp only [e]
  rw [if_pos (by simp; omega)]
theorem atN {α : Type} {xs : List α} {i : Int} {v : α} (h0 : 0 ≤ i) (h : atI xs i = some v) : xs[i.toNat]? = some v := by
  obtain ⟨j, rfl⟩ : ∃ j : Nat, i = (j : Int) := ⟨i.toNat, by omega⟩
  unfold atI ixN at h
  rw [if_pos (by omega)] at h
  split at h
  · simpa using h
  · cases h
theorem mem_erase {α : Type} {xs : List α} {k : Nat} {y : α} (h : y ∈ xs.eraseIdx k) : y ∈ xs := List.mem_of_mem_eraseIdx h
/-- the i-th of a paired list -/
theorem prd_get {α β : Type} {F : α → β → Prop} : ∀ {xs : List α} {ys : List β} {i : Nat} {x : α}, Paired F xs ys → xs[i]? = some x → ∃ y, ys[i]? = some y ∧ F x y
  | _, _, _, _, .nil, h => by simp at h
  | _, _, 0, _, .cons r _, h => by
    simp at h
    subst h
    exact ⟨_, rfl, r⟩
  | _, _, i + 1, _, .cons _ t, h => by
    rw [List.getElem?_cons_succ] at h
    obtain ⟨y, h1, h2⟩ := prd_get t h
    exact ⟨y, by rw [List.getElem?_cons_succ]; exact h1, h2⟩
theorem prd_len {α β : Type} {F : α → β → Prop} : ∀ {xs : List α} {ys : List β}, Paired F xs ys → xs.length = ys.length
  | _, _, .nil => rfl
  | _, _, .cons _ t => congrArg (· + 1) (prd_len t)
theorem prd_imp {α β : Type} {F F' : α → β → Prop} (k : ∀ x y, F x y → F' x y) : ∀ {xs : List α} {ys : List β}, Paired F xs ys → Paired F' xs ys
  | _, _, .nil => .nil
  | _, _, .cons r t => .cons (k _ _ r) (prd_imp k t)
theorem prd_app {α β : Type} {F : α → β → Prop} : ∀ {xs xs' : List α} {ys ys' : List β}, Paired F xs ys → Paired F xs' ys' → Paired F (xs ++ xs') (ys ++ ys')
  | _, _, _, _, .nil, s => s
  | _, _, _, _, .cons r t, s => .cons r (prd_app t s)
theorem prd_take {α β : Type} {F : α → β → Prop} : ∀ {xs : List α} {ys : List β} (n : Nat), Paired F xs ys → Paired F (xs.take n) (ys.take n)
  | _, _, 0, _ => .nil
  | _, _, _ + 1, .nil => .nil
  | _, _, n + 1, .cons r t => .cons r (prd_take n t)
/-- each has a partner -/
theorem prd_ex {α β : Type} {F : α → β → Prop} : ∀ {xs : List α}, (∀ x ∈ xs, ∃ y, F x y) → ∃ ys, Paired F xs ys
  | [], _ => ⟨[], .nil⟩
  | x :: r, h => by
    obtain ⟨y, hy⟩ := h x List.mem_cons_self
    obtain ⟨ys, hs⟩ := prd_ex fun x hx => h x (List.mem_cons_of_mem _ hx)
    exact ⟨y :: ys, .cons hy hs⟩
theorem prd_mem {α β : Type} {F : α → β → Prop} {x : α} : ∀ {xs : List α} {ys : List β}, Paired F xs ys → x ∈ xs → ∃ y ∈ ys, F x y
  | _, _, .nil, h => nomatch h
  | _, _, .cons (b := b) r t, h => by
    rcases List.mem_cons.mp h with rfl | h
    · exact ⟨b, List.mem_cons_self, r⟩
    · obtain ⟨y, h1, h2⟩ := prd_mem t h
      exact ⟨y, List.mem_cons_of_mem _ h1, h2⟩
/-- a statement and what follows it, with a word J between them -/
def xCut (t u : TS) : TS := fun D σ H => ∃ J : L2.St → Hp → Prop, t { D with nx := J } σ H ∧ ∀ σ' H', J σ' H' → u D σ' H'
theorem xss_cut {X : Cx} {st : Stmt} {sts : List Stmt} {t u : TS} (h1 : PS X st t) (h2 : PSs X sts u) : PSs X (st :: sts) (xCut t u) := by
  refine ⟨fun pins s0 σ H D I h => ?_⟩
  obtain ⟨J, hj, hu⟩ := h
  refine wpAny_execs_cons (thn (h1.run pins s0 σ H { D with nx := J } I hj) fun fl s2 q => ?_)
  cases fl with
  | next =>
    obtain ⟨σ2, H2, I2, q2⟩ := q
    exact h2.run pins s2 σ2 H2 D I2 (hu σ2 H2 q2)
  | _ => exact q
section
variable {K : PySem.W.Frag} {a : Addr} {xs : List V} {σ : L2.St}
/-- [e for x in xs], by the turn -/
theorem lc_at {te : TE} {vs : List Nat} {i : Nat} {H1 : Hp} {L : Addr} {Qd : Hp → Prop} (Pv : Nat → Hp → Prop) (h0 : Pv 0 (upd H1 L (.lst []))) (hl : ∀ k H, Pv k H → SqL K H a xs)
    (hw : ∀ x, wipe ((wipe σ vs).set i (some x)) vs = wipe σ vs)
    (hs : ∀ k x H, xs[k]? = some x → Pv k H → te ((wipe σ vs).set i (some x)) H fun y H4 => ∃ acc, H4 L = some (.lst acc) ∧ acc.length < sizeLine ∧ Pv (k + 1) (upd H4 L (.lst (acc ++ [y])))) (hd : ∀ H, Pv xs.length H → Qd H) :
    ∃ W : Nat → Nat → Hp → Prop, (∃ m, W 0 m (upd H1 L (.lst []))) ∧ ∀ k m H, W k m H →
      ((Itl K a).stop k H ∧ Qd H) ∨ ((Itl K a).go k H ∧ ∃ Nx : Hp → Prop, (∀ H', Nx H' → ∃ m', m' < m ∧ W (k + 1) m' H') ∧ ∀ x H', (Itl K a).yld k H x H' → gName i x (wipe σ vs) H' fun σ2 H2 => wipe σ2 vs = wipe σ vs ∧ tYes σ2 H2 fun b H3 =>
        if b = true then te σ2 H3 fun y H4 => ∃ acc, H4 L = some (.lst acc) ∧ acc.length < sizeLine ∧ Nx (upd H4 L (.lst (acc ++ [y]))) else Nx H3) :=
  lc_list Pv h0 (fun k H _ p => hl _ H p) (fun k x H hx p => ⟨hw x, hs _ x H hx p⟩) hd
end
theorem take_snoc {α : Type} {xs : List α} {i : Nat} {x : α} (h : xs[i]? = some x) : xs.take (i + 1) = xs.take i ++ [x] := (take_pre h).2
theorem ff {A : Prop} (h : false = true) : A := nomatch h
theorem tt {A : Prop} (h : true = false) : A := nomatch h
/-! ### the same with the written part K said (within a comprehension the reading must not name its context) -/
section
variable {X : Cx} (K : PySem.W.Frag) {a b e o : Expr} {es : List Expr} {ta tb te to : TE} {t : TA} {pos : Pos} {tg : Expr}
theorem ix_k (h : X.K = K := by rfl) : IxR X (yIx K) := h ▸ ix_y
theorem cr_lenK (h : X.K = K := by rfl) : CallR X (.builtin "len") (yLen K) := h ▸ cr_len
theorem op_eqK (hu : X.A.units + 64 < cLine) (h : X.K = K := by rfl) : OpR X (compareOp .Eq) (yEq K) := h ▸ op_eqY hu
theorem op_neK (hu : X.A.units + 64 < cLine) (h : X.K = K := by rfl) : OpR X (compareOp .NotEq) (yNe K) := h ▸ op_neY hu
theorem xt_truK (ha : PE X a ta) (h : X.K = K := by rfl) (he : ∀ whole, isTrue a X.env whole = (do let v ← whole; standAt a.pos; holding [v] (truthy v)) := by intro _; rfl) : PT X a (xTru K ta) := h ▸ xt_tru ha he
theorem call_isK (h : X.K = K := by rfl) : CallR X (.builtin "isinstance") (rIsi K) := h ▸ call_isi
def yList (K : PySem.W.Frag) : List V → Hp → VK → Prop := fun xs H Q => ∃ p ys, xs = [.ref p] ∧ (SqL K H p ys ∨ SqT K H p ys) ∧ ∀ l, H l = none → Q (.ref l) (upd H l (.lst ys))
theorem call_listK (h : X.K = K := by rfl) : CallR X (.type "list") (yList K) := h ▸ call_list_of
def yTup (K : PySem.W.Frag) : List V → Hp → VK → Prop := fun xs H Q => ∃ p ys, xs = [.ref p] ∧ ((SqL K H p ys ∧ ∀ l, H l = none → Q (.ref l) (upd H l (.tup ys))) ∨ (SqT K H p ys ∧ Q (.ref p) H))
theorem call_tupleK (h : X.K = K := by rfl) : CallR X (.type "tuple") (yTup K) := h ▸ call_tuple_of
theorem cr_sumK (hc : X.calm = true) (h : X.K = K := by rfl) : CallR X (.builtin "sum") (rSum K) := h ▸ cr_sum hc
theorem sl_listK (h : X.K = K := by rfl) : SlR X (rSlL K) := h ▸ sl_list
theorem pi_listK (ha : PE X a ta) (h : X.K = K := by rfl) : PI X tg a (iList K ta) := h ▸ pi_list ha
theorem pi_tupK (ha : PE X a ta) (h : X.K = K := by rfl) : PI X tg a (iTup K ta) := h ▸ pi_tup ha
theorem pe_bmK {T id : String} {name : Str} {apos cpos : Pos} {r : V → List V → Hp → VK → Prop} (pa : PlainAttrs T) (slot : Slot T name id) (hty : typeOf (.builtin id) = pure (.type "method_descriptor")) (hm : MtR X id r) (ho : PE X o to) (ha : PA X (e :: es) t) (hK : X.K = K := by rfl)
    (hbase : attributeBase o name X.env (eval o X.env) = eval o X.env := by rfl)
    (hfew : ((backTo cpos (starEach (e :: es) X.env)).all (fun x => !x.1) && (backToKw cpos (keywordEach [] X.env)).all (fun x => x.1.isSome)
      && decide ((e :: es).length + ([] : List Keyword).length + (if ([] : List Keyword).isEmpty then 0 else 1) < 30)) = true := by rfl)
    (hline : (apos.endLine == cpos.line) = true := by rfl) (hs : starEach (e :: es) X.env = (false, eval e X.env) :: starEach es X.env := by rfl) (hplain : (backTo cpos (starEach es X.env)).any (·.1) = false := by rfl) :
    PE X (.Call (.Attribute o name apos) (e :: es) [] cpos) (tBM K T r to t) := hK ▸ pe_bm pa slot hty hm ho ha hbase hfew hline hs hplain
end
section
variable {X : Cx} {a b c o : Expr} {ta tb tc : TE} {pos : Pos}
/-- a op1 b op2 c, b asked once -/
def xChain (r r' : R2) (ta tb tc : TE) : TE := fun σ H Q => ta σ H fun x H1 => tb σ H1 fun y H2 => r x y H2 fun z H3 => match z with
  | .bl k => (k = true → tc σ H3 fun w' H4 => r' y w' H4 Q) ∧ (k = false → Q (.bl false) H3)
  | _ => False
theorem xe_chain {op op' : CmpOp} {r r' : R2} (ho : OpR X (compareOp op) r) (ho' : OpR X (compareOp op') r') (ha : PE X a ta) (hb : PE X b tb) (hc : PE X c tc)
    (hm : lastMarks [op, op'] [b, c] = false := by with_unfolding_all rfl) : PE X (.Compare a [op, op'] [b, c] pos) (xChain r r' ta tb tc) := by
  refine ⟨fun pins s0 σ H Q J h => ?_⟩
  refine Compare_chain (thn (ha.run pins s0 σ H _ J h) fun v s1 ⟨x, H1, J1, r1, q1⟩ => chain_link (thn (hb.run pins s1 σ H1 _ J1 q1) fun u s2 ⟨y, H2, J2, r2, q2⟩ =>
    thn (ho pins s2 σ H2 x y v u _ J2 r1 r2 q2) fun d s3 ⟨z, H3, J3, r3, q3⟩ => ?_)) hm
  cases z with
  | bl k =>
    cases r3
    refine wpAny_truthy_bool ?_
    cases k with
    | false => exact ite_ff ⟨.bl false, H3, J3, rfl, q3.2 rfl⟩
    | true => exact ite_tt (chain_last (thn (hc.run pins s3 σ H3 _ J3 (q3.1 rfl)) fun w' s4 ⟨z', H4, J4, r4, q4⟩ => ho' pins s4 σ H4 y z' u w' Q J4 r2 r4 q4))
  | _ => exact False.elim q3
theorem xt_chain {op op' : CmpOp} {r r' : R2} (ho : OpR X (compareOp op) r) (ho' : OpR X (compareOp op') r') (ha : PE X a ta) (hb : PE X b tb) (hc : PE X c tc)
    (hm : lastMarks [op, op'] [b, c] = false := by with_unfolding_all rfl) : PT X (.Compare a [op, op'] [b, c] pos) (xB (xChain r r' ta tb tc)) := by
  refine ⟨fun pins s0 σ H Q J h => ?_⟩
  refine isTrue_chain (thn (ha.run pins s0 σ H _ J h) fun v s1 ⟨x, H1, J1, r1, q1⟩ => test_link (thn (hb.run pins s1 σ H1 _ J1 q1) fun u s2 ⟨y, H2, J2, r2, q2⟩ =>
    thn (ho pins s2 σ H2 x y v u _ J2 r1 r2 q2) fun d s3 ⟨z, H3, J3, r3, q3⟩ => ?_)) hm
  cases z with
  | bl k =>
    cases r3
    refine wpAny_truthy_bool ?_
    cases k with
    | false => exact ite_ff ⟨H3, J3, q3.2 rfl⟩
    | true =>
      refine ite_tt (test_last (thn (hc.run pins s3 σ H3 _ J3 (q3.1 rfl)) fun w' s4 ⟨z', H4, J4, r4, q4⟩ => thn (ho' pins s4 σ H4 y z' u w' _ J4 r2 r4 q4) fun d' s5 ⟨z2, H5, J5, r5, q5⟩ => ?_))
      cases z2 with
      | bl k2 =>
        cases r5
        exact wpAny_truthy_bool ⟨H5, J5, q5⟩
      | _ => exact False.elim q5
  | _ => exact False.elim q3
/-- while: a word with its measure -/
def xWhile (c : TT) (tb : TS) : TS := fun D σ H => ∃ W : Nat → L2.St → Hp → Prop, (∃ m, W m σ H) ∧ ∀ m σ H, W m σ H → c σ H fun b H1 =>
  (b = true → tb { D with nx := fun σ' H' => ∃ m', m' < m ∧ W m' σ' H', ct := fun σ' H' => ∃ m', m' < m ∧ W m' σ' H', bk := D.nx } σ H1) ∧ (b = false → D.nx σ H1)
theorem xs_while {c : Expr} {body : List Stmt} {tc : TT} {tb : TS} (hp : PassesOwn (model X.prog X.w) X.A X.env X.xe) (hc : PT X c tc) (hb : PSs X body tb) : PS X (.While c body [] pos) (xWhile tc tb) := by
  refine ⟨fun pins s0 σ H D J h => ?_⟩
  obtain ⟨W, ⟨m0, w0⟩, turn⟩ := h
  refine wpAny_While (codeAny_whileLoop (fun n s' => ∃ σ' H', L2.Inv X pins σ' H' s' ∧ W n σ' H') ?_ m0 ⟨σ, H, J, w0⟩)
  rintro n s1 ⟨σ1, H1, J1, w1⟩
  refine wpAny_passesOwn hp (thn (hc.run pins s1 σ1 H1 _ J1 (turn n σ1 H1 w1)) fun k s2 ⟨H2, J2, q2⟩ => ?_)
  cases k with
  | true =>
    rw [if_pos rfl]
    refine wpAny_passesOwn hp (thn (hb.run pins s2 σ1 H2 _ J2 (q2.1 rfl)) fun f s3 q3 => ?_)
    cases f with
    | next =>
      obtain ⟨σ3, H3, J3, m', hm, w3⟩ := q3
      exact ⟨m', hm, σ3, H3, J3, w3⟩
    | cont =>
      obtain ⟨σ3, H3, J3, m', hm, w3⟩ := q3
      exact ⟨m', hm, σ3, H3, J3, w3⟩
    | brk => exact q3
    | ret v => exact q3
  | false =>
    rw [if_neg Bool.false_ne_true]
    exact wpAny_execs_nil ⟨σ1, H2, J2, q2.2 rfl⟩
/-- a comparison by an own method (__le__ ..) of two instances of C -/
def yOwn (C : Addr) (sp : Sp) (E : XK) : R2 := fun x y H Q => ∃ a b dx dy fs gs, x = .ref a ∧ y = .ref b ∧ H a = some (.ins C dx fs) ∧ H b = some (.ins C dy gs) ∧ sp [.ref a, .ref b] H Q E
theorem op_own {CX : CXT} {C f : Addr} {fd : FuncData} {ps : List Str} {sp : Sp} {E : XK} {op : CmpOp} {n : Nat} (hop : compareOp op = richCompare op) (F : FnOk X.prog X.w X.K X.mg X.base CX n f fd ps sp)
    (hs : PySem.W.findIn X.K (.ref C) (cmpInfo op).2.1 = some (some (.ref f))) (hf : PySem.W.isFn X.K (.ref f) = true) (hb : Binds X.K fd ps []) (hx : Passes CX X E) (hr : Room n X.A) : OpR X (compareOp op) (yOwn C sp E) := by
  intro pins s σ H x y u v Q I rx ry h
  obtain ⟨a, b, dx, dy, fs, gs, rfl, rfl, ha, hb', hsp⟩ := h
  cases rx
  cases ry
  rw [hop]
  obtain ⟨mA, J1, _⟩ := ins_get I.hok ha
  obtain ⟨mB, J2, _⟩ := ins_get I.hok hb'
  obtain ⟨od, J1, _⟩ := J1.look
  obtain ⟨od', J2, _⟩ := J2.look
  obtain ⟨m, hF⟩ := I.fr
  refine PySem.W.cmp_K (op := op) (tb := .ref C) hr.units0 hF I.ok.mod.kin J1 J2.type (by simp [PySem.W.notFirst]) hs hf ?_
  have hl := F.len _ _ _ _ hsp
  refine wpAny_mono (run_fn (us := [.ref a, .ref b]) (vs := [.ref a, .ref b]) (dvs := []) F hr hb .nil hx I (.cons rfl (.cons rfl .nil)) hsp) (fun v s' q => ?_) fun _ _ e => e
  obtain ⟨z, H', I', rz, q⟩ := q
  have fin : EP X pins σ Q v s' := ⟨z, H', I', rz, q⟩
  cases v <;> first | exact fin | (cases z <;> first | exact absurd (show _ = _ from rz) (by intro e; cases e) | (obtain ⟨_, e⟩ := rz; cases e))
variable (K : PySem.W.Frag)
theorem pe_fldK {f : Str} (ha : PE X a ta) (hb : attributeBase a f X.env (eval a X.env) = eval a X.env := by rfl) (h : X.K = K := by rfl) : PE X (.Attribute a f pos) (tFld K ta f) := h ▸ pe_fld ha hb
theorem in_seqK (h : X.K = K := by rfl) : OpR X (compareOp .In) (rIn K false) := h ▸ op_in_seq
theorem notin_seqK (h : X.K = K := by rfl) : OpR X (compareOp .NotIn) (rIn K true) := h ▸ op_notIn_seq
theorem mt_countK (h : X.K = K := by rfl) : MtR X "list.count" (rCntI K) := h ▸ mt_lcount
theorem cr_allK (hc : X.calm = true) (h : X.K = K := by rfl) : CallR X (.builtin "all") (rAll K) := h ▸ cr_all hc
theorem cr_anyK (hc : X.calm = true) (h : X.K = K := by rfl) : CallR X (.builtin "any") (rAny K) := h ▸ cr_any hc
end
theorem xe_glob {X : Cx} {x z : Str} {pos : Pos} (hg : Gl X x) (hm : ∃ t, X.mg x = some (.str z t)) (hd : (x == ("__debug__" : Str)) = false := by decide) : PE X (.Name x pos) (tC (.str z)) := by
  obtain ⟨t, hm⟩ := hm
  exact pe_glob hg hm ⟨_, rfl⟩ hd
theorem xe_globI {X : Cx} {x : Str} {z : Int} {pos : Pos} (hg : Gl X x) (hm : ∃ t, X.mg x = some (.int z t)) (hd : (x == ("__debug__" : Str)) = false := by decide) : PE X (.Name x pos) (tC (.int z)) := by
  obtain ⟨t, hm⟩ := hm
  exact pe_glob hg hm ⟨_, rfl⟩ hd
theorem prd_unsnoc {α β : Type} {F : α → β → Prop} {x : α} : ∀ {xs : List α} {ys : List β}, Paired F (xs ++ [x]) ys → ∃ ys' y, ys = ys' ++ [y] ∧ Paired F xs ys' ∧ F x y
  | [], _, .cons r .nil => ⟨[], _, rfl, .nil, r⟩
  | _ :: xs, _, .cons (b := b) r t => by
    obtain ⟨ys', y, rfl, h1, h2⟩ := prd_unsnoc (xs := xs) t
    exact ⟨b :: ys', y, rfl, .cons r h1, h2⟩
theorem nil_or_snoc {α : Type} (xs : List α) : xs = [] ∨ ∃ ys y, xs = ys ++ [y] := by
  rcases List.eq_nil_or_concat xs with h | ⟨ys, y, h⟩
  · exact .inl h
  · exact .inr ⟨ys, y, by simpa using h⟩
theorem pg_tupK {X : Cx} (K : PySem.W.Frag) (n : Nat) {es : List Expr} {k : Nat} {pos : Pos} {t : TGs} (h : PGs X es t) (hc : X.calm = true := by rfl) (hK : X.K = K := by rfl)
    (hn : (assignEach es X.env).length = n := by rfl) (hst : (assignEach es X.env).findIdx? (·.1) = none := by rfl) : PG X (.Tuple es k pos) (gTup K n t) := hK ▸ pg_tup hc h hn hst
theorem perm_erase {α : Type} : ∀ {xs : List α} {i : Nat} {x : α}, xs[i]? = some x → (x :: xs.eraseIdx i).Perm xs
  | [], _, _, h => by simp at h
  | y :: r, 0, x, h => by
    simp at h
    subst h
    exact List.Perm.refl _
  | y :: r, i + 1, x, h => by
    rw [List.getElem?_cons_succ] at h
    exact (List.Perm.swap _ _ _).trans (List.Perm.cons _ (perm_erase h))
theorem Sep.new2 {G H : Hp} {M : List (Addr × HO)} {x dx : Addr} {o u : HO} (S : Sep G M H) (h1 : H x = Option.none) (h2 : H dx = Option.none) (ne : dx ≠ x) : Sep G ((x, o) :: (dx, u) :: M) (upd (upd H dx u) x o) :=
  (S.new h2).new (by rw [upd_ne (Ne.symm ne)]; exact h1)
end XL
set_option Elab.async false
set_option linter.all false
set_option maxRecDepth 100000
set_option maxHeartbeats 4000000
/-! XIter: enumerate of a tuple. -/
namespace XL
open PySem PySem.Spec PyProof.Rows L2
theorem meets_enum1 {v : Value} {o : Obj} {Hq : Heap → Prop} (B : Begins v o Hq) :
    Meets (Builtin.«enumerate.__new__» ⟨[.type "enumerate", v], []⟩) (fun _ R s => Hq s.heap ∧
      R (.ok (.ret (.ref (s.heap.push o).objs.size))) { s with heap := (s.heap.push o).push { cls := .type "enumerate", data := .fields #[.none, .bool false, .ref s.heap.objs.size, rawInt 0, .none, .none] } }) :=
  .of_wp fun prog w A R s z => by
    obtain ⟨hp, g, d, tk, os⟩ := s
    obtain ⟨z1, z2⟩ := z
    have hsub := sub_enumerate
    have begin1 : ∀ {A' : Around} {E : Value → Shared → Prop} {Q : Value → Shared → Prop}, Q (.ref hp.objs.size) ⟨hp.push o, g, d, tk, os⟩ → wpAny (model prog w) A' (pyIter v) Q E ⟨hp, g, d, tk, os⟩ := fun q => B.iter prog w _ _ ⟨hp, g, d, tk, os⟩ _ z1 q
    wp_walk using begin1
    refine wpAny_stack_any fun st => wpAny_pure ?_
    split
    · rename_i c _ _ _ _ _
      cases (c == Value.type "enumerate") <;> (wp_walk using begin1; exact ⟨_, rfl, z2⟩)
    · wp_walk using begin1
      exact ⟨_, rfl, z2⟩
theorem call_enum1 {prog : Program} {w : World} {A : Around} {E : Value → Shared → Prop} {s : Shared} {v : Value} {o : Obj} {Hq : Heap → Prop} {Q : Value → Shared → Prop} (B : Begins v o Hq) (h1 : Hq s.heap)
    (k : ∀ h', IsEnum h' (s.heap.objs.size + 1) s.heap.objs.size 0 .none → h'.get? s.heap.objs.size = some o → (∀ b o, s.heap.get? b = some o → h'.get? b = some o) → Q (.ref (s.heap.objs.size + 1)) { s with heap := h' }) :
    wpAny (model prog w) A (call (.type "enumerate") [v]) Q E s := by
  refine callType_new F.called_enumerate (by decide) (F.typeCall_enumerate_1 _) (F.newCall_enumerate_1 _) (fun ob => F.args_object_init_2 ob _) F.entry_enumerate_new (meets_enum1 B) ⟨h1, ?_⟩
  have hz : (s.heap.push o).objs.size = s.heap.objs.size + 1 := Heap.size_push ..
  show _ ∧ _
  rw [hz]
  have he : IsEnum ((s.heap.push o).push { cls := .type "enumerate", data := .fields #[.none, .bool false, .ref s.heap.objs.size, rawInt 0, .none, .none] }) (s.heap.objs.size + 1) s.heap.objs.size 0 .none := by
    have z := Heap.get?_push_size (s.heap.push o) (o := { cls := .type "enumerate", data := .fields #[.none, .bool false, .ref s.heap.objs.size, rawInt 0, .none, .none] }) rfl
    rw [hz] at z
    exact z
  exact ⟨⟨_, he, rfl⟩, k _ he (Heap.get?_push_of_some _ (Heap.get?_push_size _ B.free)) fun b o x => Heap.get?_push_of_some _ (Heap.get?_push_of_some _ x)⟩
/-- the tuple at a, each item in a new pair -/
def IteT (K : PySem.W.Frag) (a : Addr) : It :=
  ⟨fun i H => ∃ (xs : List V) (x : V), SqT K H a xs ∧ xs[i]? = some x, fun i H v H' => ∃ T x, v = .ref T ∧ H T = none ∧ H' = upd H T (.tup [.int (i : Nat), x]) ∧ ∀ xs, SqT K H a xs → xs[i]? = some x, fun i H => ∃ xs : List V, SqT K H a xs ∧ xs.length ≤ i⟩
theorem turn_enumT {P : Program} {w : World} {K : PySem.W.Frag} {elts : List Expr} {kk : Nat} {tpos : Pos} (a e it : Addr) (hai : a ≠ it) (hae : a ≠ e) :
    Turn P w K (.Tuple elts kk tpos) (IteT K a) [e, it] e (fun i h => (∃ old, IsEnum h e it ((i : Nat) : Int) old) ∧ h.IsTupleIter it a i ∧ e ≠ it) where
  mem := by simp
  obj := fun i h st b hb => by
    obtain ⟨⟨old, he⟩, ⟨o, ho, hc, hd⟩, _⟩ := st
    have q : b = e ∨ b = it := by simpa using hb
    rcases q with z | z
    · rw [z]; exact ⟨_, he, fun v q => nomatch q⟩
    · rw [z]; exact ⟨o, ho, fun v q => by rw [hd] at q; cases q⟩
  keep := fun i h h' st k => let ⟨⟨old, he⟩, hi, hne⟩ := st; ⟨⟨old, k e (by simp) _ he⟩, hi.at fun o q => k it (by simp) o q, hne⟩
  item := by
    intro X hP hw hK hc i pins s σ H E I hf st hg
    subst hP hw hK
    obtain ⟨⟨old, he⟩, hit, hne⟩ := st
    obtain ⟨xs, x, hq, hx⟩ := hg
    obtain ⟨its, rv, p, hz⟩ := I.tuple hq
    obtain ⟨u, hu, ru⟩ := rv.get hx
    have hel : e < s.heap.objs.size := Heap.lt_size he
    have hil : it < s.heap.objs.size := by obtain ⟨_, q, _⟩ := hit; exact Heap.lt_size q
    have hlen : i < its.toArray.size := by
      have z := (List.getElem?_eq_some_iff.mp hu).1
      simpa using z
    refine wpAny_pyNext_enum_itemC (c := ((i : Nat) : Int)) (Draws.tuple (A := X.A.in1) (I.ok.hd hc) it a hai its.toArray) he ⟨hit, p⟩ hlen hne (by simp; exact ⟨hne, fun z => hae z.symm⟩) fun y h' tk hy ho st' hT hsz hk => ?_
    have ey : y = u := by
      have z : its[i]? = some y := by simpa using hy
      rw [hu] at z
      exact (Option.some.inj z).symm
    subst ey
    refine ⟨_, rfl, wpAny_letOwnedTupleGo_enum (s := { s with heap := h', toks := tk + 1 }) ho fun h'' he' sb => ?_⟩
    have hT2 : h''.get? s.heap.objs.size = some { cls := .type "tuple", data := .seq #[.int i tk, y] } := (sb.2 _ (Nat.ne_of_gt hel)).trans hT
    have new : ObjOk X.prog X.w (upd H s.heap.objs.size (.tup [.int (i : Nat), x])) h'' s.heap.objs.size (.tup [.int (i : Nat), x]) :=
      ⟨by show 2 ≤ sizeLine; decide, [.int i tk, y], .cons ⟨_, rfl⟩ (.cons ru .nil), ⟨_, hT2, rfl, _, rfl⟩⟩
    have I1 : L2.Inv X pins σ (upd H s.heap.objs.size (.tup [.int (i : Nat), x])) { s with heap := h'', toks := tk + 1 } :=
      I.turnedNew (ch := [e, it]) (fun b ob hb q => (sb.2 b (fun z => hb (by simp [z]))).trans (hk b ob (fun z => hb (by simp [z])) (fun z => hb (by simp [z])) q)) hf (Nat.le_refl _) new
    refine ⟨.ref s.heap.objs.size, _, I1, rfl, ⟨_, x, rfl, I.hok.fresh (Nat.le_refl _), rfl, fun ys hy => by rw [I.tuple_inj hy hq]; exact hx⟩, ⟨⟨y, ?_⟩, st'.1.at fun o q => (sb.2 it (Ne.symm hne)).trans q, hne⟩, fun b hb => ?_⟩
    · have e1 : ((i + 1 : Nat) : Int) = (i : Int) + 1 := by omega
      rw [e1]; exact he'
    · have hb2 : b < s.heap.objs.size := by
        have q : b = e ∨ b = it := by simpa using hb
        rcases q with z | z
        · rw [z]; exact hel
        · rw [z]; exact hil
      rw [upd_ne (Nat.ne_of_lt hb2)]
      exact (hf b hb).1
  done := by
    intro X hP hw hK hc i pins s σ H E I hf st hg
    subst hP hw hK
    obtain ⟨⟨old, he⟩, hit, hne⟩ := st
    obtain ⟨xs, hq, hx⟩ := hg
    obtain ⟨its, rv, p, hz⟩ := I.tuple hq
    obtain ⟨f0, f1, f2, f3, f4, f5⟩ := hf it (by simp)
    have hl := rv.length
    have D := Draws.tuple (prog := X.prog) (w := X.w) (A := X.A.in1) (I.ok.hd hc) it a hai its.toArray
    by_cases hi : i = its.toArray.size
    · subst hi
      exact wpAny_pyNext_enum_endD D he ⟨hit, p⟩ fun h' eb => ⟨rfl, I.turned (t' := s.toks) (fun b o hb q => eb b o hb q) f0 f1 f3 f4 f5⟩
    · have D2 : Draws X.prog X.w X.A.in1 it [it, a] i (fun _ _ => False) (fun j h => (j = i ∨ False) ∧ h.IsTupleIter it a i ∧ h.IsTuple a its.toArray) := {
        live := fun _ _ st => let ⟨o, ho, _⟩ := st.2.1; ⟨o, ho⟩
        frame := fun _ _ _ st hk => ⟨st.1, st.2.1.at fun o e => hk it (by simp) o e, st.2.2.at fun o e => hk a (by simp) o e⟩
        item := fun j s Q E hj st hQ => by
          rcases st.1 with z | z
          · omega
          · exact z.elim
        done := fun s Q E st hE => wpAny_nextOf_tuple_end (I.ok.hd hc) st.2.1 st.2.2 (by
          simp only [List.getElem?_toArray]
          exact List.getElem?_eq_none_iff.mpr (by omega)) hE }
      exact wpAny_pyNext_enum_endD D2 he ⟨.inl rfl, hit, p⟩ fun h' eb => ⟨rfl, I.turned (t' := s.toks) (fun b o hb q => eb b o hb q) f0 f1 f3 f4 f5⟩
  self := fun A i s Q E st h => let ⟨⟨_, he⟩, _⟩ := st; wpAny_pyIter_enum he h
def iEnumT (K : PySem.W.Frag) (ta : TA) : TI := fun σ H R => ta σ H fun vs H1 => ∃ a xs, vs = [.ref a] ∧ SqT K H1 a xs ∧ R (IteT K a) H1
theorem pi_enumT {X : Cx} {e : Expr} {ta : TA} {p pos tpos : Pos} {elts : List Expr} {kk : Nat} (hg : Gl X "enumerate") (hm : X.mg "enumerate" = none) (ha : PA X [e] ta) (hs : starEach [e] X.env = [(false, eval e X.env)] := by rfl) :
    PI X (.Tuple elts kk tpos) (.Call (.Name "enumerate" p) [e] [] pos) (iEnumT X.K ta) := by
  refine ⟨fun pins s σ H R I h => ?_⟩
  refine Call_ (ld_blt I hg hm boot_enumerate (PyProof.Rows.callWith_type1 (thn (ha.run pos pins s σ H _ I h) fun us s1 ⟨vs, H1, I1, r1, q1⟩ => ?_) hs rfl))
  obtain ⟨a, xs, ex, hq, q⟩ := q1
  subst ex
  cases r1 with
  | cons r rr =>
    cases rr
    cases r
    obtain ⟨its, rv, p', hz⟩ := I1.tuple hq
    have hal : a < s1.heap.objs.size := by obtain ⟨o, ho, _⟩ := p'; exact Heap.lt_size ho
    refine call_enum1 (begins_tuple a its.toArray) p' fun h' he hit hk => wpAny_pyIter_enum he ?_
    have I2 : L2.Inv X pins σ H1 { s1 with heap := h' } := I1.kept (t' := s1.toks) hk
    refine ⟨s1.heap.objs.size + 1, [s1.heap.objs.size + 1, s1.heap.objs.size], _, _, H1, rfl, I2, turn_enumT a (s1.heap.objs.size + 1) s1.heap.objs.size (Nat.ne_of_lt hal) (Nat.ne_of_lt (Nat.lt_succ_of_lt hal)), ⟨⟨.none, he⟩, ⟨_, hit, rfl, rfl⟩, Nat.succ_ne_self _⟩, fun b hb => ?_, q⟩
    have q' : b = s1.heap.objs.size + 1 ∨ b = s1.heap.objs.size := by simpa using hb
    have hle : s1.heap.objs.size ≤ b := by
      rcases q' with z | z
      · rw [z]; exact Nat.le_add_right _ _
      · rw [z]; exact Nat.le_refl _
    exact I1.fpOk hle (I1.hok.fresh hle)
theorem for_enumT {K : PySem.W.Frag} {a : Addr} {xs : List V} {tb : TS} {D : Ends} {σ : L2.St} {H : Hp} {i j : Nat} (Pv : Nat → L2.St → Hp → Prop) (h0 : Pv 0 σ H) (hl : ∀ k σ H, Pv k σ H → SqT K H a xs)
    (hs : ∀ k x σ H T, xs[k]? = some x → Pv k σ H → H T = none →
      tb { D with nx := Pv (k + 1), ct := Pv (k + 1), bk := D.nx } ((σ.set i (some (.int (k : Nat)))).set j (some x)) (upd H T (.tup [.int (k : Nat), x]))) (hd : ∀ σ H, Pv xs.length σ H → D.nx σ H) :
    ∃ W : Nat → Nat → L2.St → Hp → Prop, (∃ m, W 0 m σ H) ∧ ∀ k m σ H, W k m σ H →
      ((IteT K a).stop k H ∧ D.nx σ H) ∨ ((IteT K a).go k H ∧ ∃ N : L2.St → Hp → Prop, (∀ σ' H', N σ' H' → ∃ m', m' < m ∧ W (k + 1) m' σ' H') ∧ ∀ x H', (IteT K a).yld k H x H' →
        (gTup K 2 (gCons (gName i) (gCons (gName j) gNil))) x σ H' fun σ2 H2 => tb { D with nx := N, ct := N, bk := D.nx } σ2 H2) := by
  refine ⟨fun k m σ H => m = xs.length - k ∧ k ≤ xs.length ∧ Pv k σ H, ⟨xs.length, by simp, Nat.zero_le _, h0⟩, ?_⟩
  rintro k m σ H ⟨rfl, hk, p⟩
  have q := hl _ σ H p
  by_cases hlt : k < xs.length
  · refine .inr ⟨⟨xs, xs[k], q, by simp [hlt]⟩, Pv (k + 1), fun σ' H' p' => ⟨xs.length - (k + 1), by omega, rfl, hlt, p'⟩, fun v H' y => ?_⟩
    obtain ⟨T, x, rfl, nT, rfl, hx⟩ := y
    refine ⟨T, _, rfl, SqT.of upd_same, rfl, _, _, rfl, _, _, rfl, rfl, ?_⟩
    exact hs k x σ H T (hx xs q) p nT
  · have e : k = xs.length := by omega
    subst e
    exact .inl ⟨⟨xs, q, Nat.le_refl _⟩, hd σ H p⟩
end XL
set_option Elab.async false
set_option linter.all false
set_option maxRecDepth 100000
set_option maxHeartbeats 4000000
/-! XDeep: x in t, t.index(x), items data of any depth, t a list or a tuple. -/
namespace XL
open PySem PySem.Spec PyProof.Rows L2
section
variable {X : Cx} (K : PySem.W.Frag)
def rInX (K : PySem.W.Frag) (neg : Bool) : R2 := fun x y H Q => ∃ d ds, Dp K H x d ∧ (Dp K H y (.list ds) ∨ Dp K H y (.tuple ds)) ∧ SeqAt.shaped d = true ∧ PyData.canLayAll0 ds = true ∧ Q (.bl (if neg then !(ds.any fun z => PyData.eqv z d) else ds.any fun z => PyData.eqv z d)) H
theorem in_deepK (hu : X.A.units + 65 < cLine) (h : X.K = K := by rfl) : OpR X (compareOp .In) (rInX K false) := by
  subst h
  intro pins s σ H x y v u Q I rx ry h
  obtain ⟨d, ds, hd, he, sd, se, q⟩ := h
  obtain ⟨as, r1⟩ := Dp.reads I d x v hd rx
  rcases he with he | he
  · obtain ⟨bs, r2⟩ := Dp.reads I (.list ds) y u he ry
    exact SeqAt.in_list_reads r2 r1 se (SeqAt.canLay_of_shaped sd) (room_in_shaped sd hu) ⟨.bl _, H, I, rfl, q⟩
  · obtain ⟨bs, r2⟩ := Dp.reads I (.tuple ds) y u he ry
    exact SeqAt.in_tuple_reads r2 r1 se (SeqAt.canLay_of_shaped sd) (room_in_shaped sd hu) ⟨.bl _, H, I, rfl, q⟩
theorem notin_deepK (hu : X.A.units + 65 < cLine) (h : X.K = K := by rfl) : OpR X (compareOp .NotIn) (rInX K true) := by
  subst h
  intro pins s σ H x y v u Q I rx ry h
  obtain ⟨d, ds, hd, he, sd, se, q⟩ := h
  obtain ⟨as, r1⟩ := Dp.reads I d x v hd rx
  rcases he with he | he
  · obtain ⟨bs, r2⟩ := Dp.reads I (.list ds) y u he ry
    exact SeqAt.notIn_list_reads r2 r1 se (SeqAt.canLay_of_shaped sd) (room_in_shaped sd hu) ⟨.bl _, H, I, rfl, q⟩
  · obtain ⟨bs, r2⟩ := Dp.reads I (.tuple ds) y u he ry
    exact SeqAt.notIn_tuple_reads r2 r1 se (SeqAt.canLay_of_shaped sd) (room_in_shaped sd hu) ⟨.bl _, H, I, rfl, q⟩
/-- t.index(x), t a tuple: the first place of an equal one -/
def rIndexT (K : PySem.W.Frag) : V → List V → Hp → VK → Prop := fun x xs H Q => ∃ (a : Addr) (y : V) (d : PyData) (ds : List PyData) (j : Nat) (z : PyData), x = V.ref a ∧ xs = [y] ∧ Dp K H (V.ref a) (.tuple ds) ∧ Dp K H y d ∧
  PyData.canLayAll0 ds = true ∧ SeqAt.shaped d = true ∧ ds[j]? = some z ∧ PyData.eqv z d = true ∧ (∀ (m : Nat) (z' : PyData), m < j → ds[m]? = some z' → PyData.eqv z' d = false) ∧ Q (.int (j : Nat)) H
theorem mt_tindexK (hu : X.A.units + 65 < cLine) (h : X.K = K := by rfl) : MtR X "tuple.index" (rIndexT K) := by
  subst h
  intro pins s σ H x xs v us Q I rx rxs h
  obtain ⟨a, y, d, ds, j, z, rfl, rfl, hl, hy, hxs, sd, hz, hzj, hno, q⟩ := h
  cases rx
  cases rxs with
  | cons ry rt =>
    rename_i uy ut
    cases rt
    obtain ⟨bs, r1⟩ := Dp.reads I d y uy hy ry
    have hroom : X.A.units + 1 + min (PyData.depthAll ds) d.depth < cLine := room_in_shaped sd hu
    cases hl with
    | tup hs ha =>
      obtain ⟨its, rv, ⟨⟨cls, dd, data, sls⟩, ho, hc, n, hdt⟩, hlen⟩ := I.tuple hs
      simp only at hc hdt
      subst hc hdt
      obtain ⟨as, h4⟩ := Dp.readsAll I ds _ its ha rv
      have hn : its.length = ds.length := SeqAt.ReadsAll.length ds its as h4
      have hmap : its.map (SeqAt.readOf s.heap) = ds := SeqAt.readsAll_map ds its as hxs h4
      have hvl := rv.length
      obtain ⟨hjd, _⟩ := List.getElem?_eq_some_iff.mp hz
      have hjl : j < its.length := by omega
      have hj : j < its.toArray.size := by simpa using hjl
      have at_ : ∀ (m : Nat) (hm : m < its.toArray.size) (z' : PyData), ds[m]? = some z' → SeqAt.readOf s.heap its.toArray[m] = z' := by
        intro m hm z' hz'
        have hml : m < its.length := by simpa using hm
        rw [← hmap, List.getElem?_map, List.getElem?_eq_getElem hml] at hz'
        have e1 : SeqAt.readOf s.heap its[m] = z' := Option.some.inj (show some (SeqAt.readOf s.heap its[m]) = some z' from hz')
        simpa using e1
      refine call_meets PySem.F.slot_tuple_index ⟨_, ho, rfl⟩ PySem.F.entry_tuple_index (PySem.F.args_tuple_index_2 _ _)
        (TI.tuple_indexAt a its.toArray n dd sls uy (fun u => PyData.eqv (SeqAt.readOf s.heap u) d) j hj ?_ ?_) ⟨ho, SeqAt.items_eqAt (vs := its.toArray) (show ReadsAll s.heap its.toArray.toList ds as from h4) r1 hxs (SeqAt.canLay_of_shaped sd) hroom, ?_⟩
      · show PyData.eqv (SeqAt.readOf s.heap its.toArray[j]) d = true
        rw [at_ j hj z hz]
        exact hzj
      · intro m hm hmj
        have hmd : m < ds.length := by omega
        have hz' : ds[m]? = some ds[m] := List.getElem?_eq_getElem hmd
        show PyData.eqv (SeqAt.readOf s.heap its.toArray[m]) d = false
        rw [at_ m hm _ hz']
        exact hno m _ hmj hz'
      · exact ⟨.int (j : Nat), H, I.tok _, ⟨_, rfl⟩, q⟩
end
theorem u65 {k : Nat} {A : Around} (r : Room k A) : A.units + 65 < cLine := by have := r.un; omega
/-- xs[::-1] of a list -/
def tRev (K : PySem.W.Frag) (te : TE) : TE := fun σ H Q => te σ H fun x H1 => ∃ a xs, x = .ref a ∧ SqL K H1 a xs ∧ ∀ p, H1 p = none → Q (.ref p) (upd H1 p (.lst xs.reverse))
theorem pe_rev {X : Cx} {e m : Expr} {te : TE} {p2 pos : Pos} (he : PE X e te) (hm : PE X m (tC (.int (-1)))) : PE X (.Subscript e (.Slice none none (some m) p2) pos) (tRev X.K te) := by
  refine ⟨fun pins s σ H Q I h => ?_⟩
  refine Subscript_ (thn (he.run pins s σ H _ I h) fun v s1 ⟨x, H1, I1, r1, q1⟩ => ?_)
  refine wpAny_Slice (wpAny_evalPart_none (wpAny_evalPart_none (wpAny_evalPart_some (thn (hm.run pins s1 σ H1 (fun y H2 => y = .int (-1) ∧ H2 = H1) I1 ⟨rfl, rfl⟩) fun vm s3 ⟨y, H3, I3, r3, ey, eH⟩ => ?_))))
  subst ey eH
  obtain ⟨t, rfl⟩ := r3
  obtain ⟨a, xs, rfl, hx, q⟩ := q1
  cases r1
  have I4 : L2.Inv X pins σ H3 { s3 with heap := s3.heap.push { cls := .type "slice", data := .fields #[.none, .none, .int (-1) t] } } := I3.kept (t' := s3.toks) fun b ob q => Heap.get?_push_of_some _ q
  obtain ⟨its, r, ht, hz⟩ := I4.list hx
  have hlen := r.length
  show wpAny (model X.prog X.w) X.A (subscriptTail e (.Slice none none (some m) p2) (.ref a) (.ref s3.heap.objs.size)) (EP X pins σ Q) X.xe { s3 with heap := s3.heap.push { cls := .type "slice", data := .fields #[.none, .none, .int (-1) t] } }
  refine tail_any (ops := [.ref a, .ref s3.heap.objs.size]) ht.isList.typeIs slot_list_getitem.lookup ?_ (by with_unfolding_all rfl)
  refine wpAny_getItem_list_slice ht.isList (Heap.IsSliceOf.new ..) .none .none (.int (-1) t) (by decide) ?_ (by rw [List.size_toArray] <;> omega)
  rw [PySem.W.krv_pick]
  refine ⟨.ref _, _, I4.laid (t' := s3.toks) (o := .lst xs.reverse) (fun b ob q => Heap.get?_push_of_some _ q) (Nat.le_refl _) ?_, rfl, q _ (I4.hok.fresh (Nat.le_refl _))⟩
  exact ⟨by rw [List.length_reverse]; exact hz, _, 0, r.reverse, Heap.get?_push_size _ rfl⟩
theorem pe_revK {X : Cx} {e m : Expr} {te : TE} {p2 pos : Pos} (K : PySem.W.Frag) (he : PE X e te) (hm : PE X m (tC (.int (-1)))) (h : X.K = K := by rfl) : PE X (.Subscript e (.Slice none none (some m) p2) pos) (tRev K te) := h ▸ pe_rev he hm
theorem tst {b : Bool} {A B : Prop} (h1 : b = true → A) (h0 : b = false → B) : if b = true then A else B := by
  cases b
  · exact h0 rfl
  · exact h1 rfl
theorem sl_tupAK {X : Cx} (K : PySem.W.Frag) (h : X.K = K := by rfl) : SlR X (rSlA K) := h ▸ sl_tupA
/-! ### tuples whose object has no dict (so that their methods are reached) -/
def TupF (G : Hp) (a : Addr) (xs : List V) : Prop := ∃ o : Obj, o.dict = none ∧ G a = some (.frz o (.tup xs))
def Tu (G : Hp) (a : Addr) (xs : List V) : Prop := G a = some (.tup xs) ∨ TupF G a xs
theorem TupF.same {G G' : Hp} {a : Addr} {xs : List V} (e : Same G G') (h : TupF G a xs) : TupF G' a xs := let ⟨o, h1, h2⟩ := h; ⟨o, h1, e _ _ h2⟩
theorem Tu.same {G G' : Hp} {a : Addr} {xs : List V} (e : Same G G') (h : Tu G a xs) : Tu G' a xs := by
  rcases h with h | h
  · exact .inl (e _ _ h)
  · exact .inr (h.same e)
theorem Tu.sq {K : PySem.W.Frag} {H : Hp} {a : Addr} {xs : List V} (h : Tu H a xs) : SqT K H a xs := by
  rcases h with h | ⟨o, _, h⟩
  · exact .inl (.inl h)
  · exact .inl (.inr ⟨o, h⟩)
theorem Tu.ty {K : PySem.W.Frag} {H : Hp} {a : Addr} {xs : List V} (h : Tu H a xs) : TyX K H (.ref a) (.type "tuple") := by
  rcases h with h | ⟨o, _, h⟩
  · exact .base (.tup h)
  · exact .fTuple h
theorem TupF.tu {G : Hp} {a : Addr} {xs : List V} (h : TupF G a xs) : Tu G a xs := .inr h
section
variable {X : Cx} (K : PySem.W.Frag)
/-- tuple(xs) -/
def yTupF (K : PySem.W.Frag) : List V → Hp → VK → Prop := fun xs H Q => ∃ p ys, xs = [.ref p] ∧ ((SqL K H p ys ∧ ∀ l o, H l = none → o.dict = none → Q (.ref l) (upd H l (.frz o (.tup ys)))) ∨ (SqT K H p ys ∧ Q (.ref p) H))
theorem call_tupleFK (h : X.K = K := by rfl) : CallR X (.type "tuple") (yTupF K) := by
  subst h
  intro pins s σ H xs us Q I r h
  obtain ⟨p, ys, rfl, h⟩ := h
  obtain ⟨u, rfl, rx⟩ := vals1 r
  cases rx
  rcases h with ⟨hq, q⟩ | ⟨hq, q⟩
  · obtain ⟨its, r', pl, hz⟩ := I.list hq
    have hlen := r'.length
    refine call_tuple_list pl.isList (fun h' kp => ?_) (by simp only [List.size_toArray] <;> omega)
    have I1 : L2.Inv X pins σ H { s with heap := h' } := I.kept (t' := s.toks) kp
    have I2 : L2.Inv X pins σ (upd H h'.objs.size (.frz { cls := .type "tuple", data := .seq its.toArray } (.tup ys))) { s with heap := h'.push { cls := .type "tuple", data := .seq its.toArray } } :=
      I1.laid (t' := s.toks) (fun b o e => Heap.get?_push_of_some _ e) (Nat.le_refl _) (show ObjOk X.prog X.w _ _ _ (.frz { cls := .type "tuple", data := .seq its.toArray } (.tup ys)) from ⟨Heap.get?_push_size _ rfl, hz, its, r', IsTup.new _ _⟩)
    exact ⟨.ref h'.objs.size, _, I2, rfl, q _ _ (I1.hok.fresh (Nat.le_refl _)) rfl⟩
  · obtain ⟨its, r', pl, hz⟩ := I.tuple hq
    exact call_tuple_same pl ⟨.ref p, H, I, rfl, q⟩
/-- t.m(e, ..), t a tuple -/
def tTM (r : V → List V → Hp → VK → Prop) (to : TE) (t : TA) : TE := fun σ H Q => to σ H fun x H1 => (∃ a xs, x = .ref a ∧ TupF H1 a xs) ∧ t σ H1 fun vs H2 => r x vs H2 Q
theorem pe_tm {o e : Expr} {es : List Expr} {to : TE} {t : TA} {id : String} {name : Str} {apos cpos : Pos} {r : V → List V → Hp → VK → Prop} (slot : Slot "tuple" name id) (hty : typeOf (.builtin id) = pure (.type "method_descriptor")) (hm : MtR X id r) (ho : PE X o to) (ha : PA X (e :: es) t)
    (hbase : attributeBase o name X.env (eval o X.env) = eval o X.env := by rfl)
    (hfew : ((backTo cpos (starEach (e :: es) X.env)).all (fun x => !x.1) && (backToKw cpos (keywordEach [] X.env)).all (fun x => x.1.isSome)
      && decide ((e :: es).length + ([] : List Keyword).length + (if ([] : List Keyword).isEmpty then 0 else 1) < 30)) = true := by rfl)
    (hline : (apos.endLine == cpos.line) = true := by rfl) (hs : starEach (e :: es) X.env = (false, eval e X.env) :: starEach es X.env := by rfl) (hplain : (backTo cpos (starEach es X.env)).any (·.1) = false := by rfl) :
    PE X (.Call (.Attribute o name apos) (e :: es) [] cpos) (tTM r to t) := by
  refine ⟨fun pins s σ H Q I h => ?_⟩
  refine wpAny_Call_method_late hbase hfew hline rfl (thn (ho.run pins s σ H _ I h) fun v s1 ⟨x, H1, I1, r1, ty, q1⟩ => ?_)
  obtain ⟨a, xs, rfl, ob, hd, ha'⟩ := ty
  cases r1
  obtain ⟨h1, _, _, _, h2⟩ := I1.hok _ _ ha'
  refine ⟨"tuple", id, PySem.F.plainAttrs_tuple, slot, hty, ⟨ob, h1, ?_⟩, fun b e => ?_, ?_⟩
  · obtain ⟨ob', e1, e2, _⟩ := h2
    rw [h1] at e1
    rw [Option.some.inj e1]
    exact e2
  · cases e
    exact ⟨ob, h1, hd⟩
  have hA := ha.run cpos pins s1 σ H1 _ I1 q1
  rw [hs] at hA ⊢
  refine Calls.callWith_builtin (by show (false || (backTo cpos (starEach es X.env)).any (·.1)) = false; rw [hplain] <;> rfl) (Calls.evalArgs_plain ?_)
  exact thn hA fun us s2 ⟨vs, H2, I2, r2, q2⟩ => hm pins s2 σ H2 (V.ref a) vs (.ref a) us Q I2 rfl r2 q2
end
/-- t[lo:hi]: the whole of it is t itself -/
def rSlF (K : PySem.W.Frag) : V → Option Int → Option Int → Hp → VK → Prop := fun x lo hi H Q => ∃ a xs, x = .ref a ∧ SqT K H a xs ∧
  (HT.sIx xs.length 0 lo = 0 ∧ HT.sIx xs.length xs.length hi = xs.length → Q (.ref a) H) ∧ (¬ (HT.sIx xs.length 0 lo = 0 ∧ HT.sIx xs.length xs.length hi = xs.length) → ∀ p ob, H p = none → ob.dict = none → Q (.ref p) (upd H p (.frz ob (.tup (cutV xs lo hi)))))
theorem sl_tupFK {X : Cx} (K : PySem.W.Frag) (h : X.K = K := by rfl) : SlR X (rSlF K) := by
  subst h
  intro pins s σ H x v vl vu lo hi sl Q I rx hs pl pu h
  obtain ⟨a, xs, rfl, hx, q1, q2⟩ := h
  by_cases hw : HT.sIx xs.length 0 lo = 0 ∧ HT.sIx xs.length xs.length hi = xs.length
  · exact sl_tupA pins s σ H _ v vl vu lo hi sl Q I rx hs pl pu ⟨a, xs, rfl, hx, q1, fun z => absurd hw z⟩
  · cases rx
    obtain ⟨its, r, ht, hz⟩ := I.tuple hx
    have hlen : its.toArray.size = xs.length := by rw [List.size_toArray]; exact r.length.symm
    refine ⟨"tuple", _, PyProof.Rows.slot_tuple_getitem.lookup, ht.typeIs, ?_⟩
    refine HT.getItem_tuple_cut ht hs pl pu (by rw [hlen]; exact hw) ?_ (by rw [hlen]; exact hz)
    rw [hlen]
    refine ⟨.ref s.heap.objs.size, _, I.laid (t' := s.toks) (o := .frz { cls := .type "tuple", data := .seq (List.take (HT.sIx xs.length xs.length hi - HT.sIx xs.length 0 lo) (List.drop (HT.sIx xs.length 0 lo) its.toArray.toList)).toArray } (.tup (cutV xs lo hi))) (fun b ob q => Heap.get?_push_of_some _ q) (Nat.le_refl _) ?_, rfl, q2 hw _ _ (I.hok.fresh (Nat.le_refl _)) ?_⟩
    · exact ⟨Heap.get?_push_size _ rfl, Nat.le_trans (cutV_length xs lo hi) hz, _, (r.drop (HT.sIx xs.length 0 lo)).take (HT.sIx xs.length xs.length hi - HT.sIx xs.length 0 lo), IsTup.new _ _⟩
    · rfl
theorem Sep.sub {G H : Hp} {M M' : List (Addr × HO)} (S : Sep G M H) (h : M'.Sublist M) : Sep G M' H := ⟨S.1, fun p hp => S.2.1 p (h.subset hp), List.Nodup.sublist (h.map _) S.2.2⟩
theorem Sep.rot2 {G H : Hp} {a b c d : Addr × HO} {M : List (Addr × HO)} (S : Sep G (a :: b :: c :: d :: M) H) : Sep G (c :: d :: a :: b :: M) H := S.perm (List.perm_append_comm_assoc [a, b] [c, d] M)
theorem Sep.no3 {G H : Hp} {a b c : Addr × HO} {M : List (Addr × HO)} (S : Sep G (a :: b :: c :: M) H) : Sep G (a :: b :: M) H := S.sub ((List.sublist_cons_self c M).cons₂ b |>.cons₂ a)
/-! ### lists of ints, of pairs of ints, as data -/
def prd (p : Int × Int) : PyData := .tuple [.int p.1, .int p.2]
theorem prd_can (p : Int × Int) : (prd p).canLay0 = true := by simp [prd, PyData.canLay0, PyData.canLayAll0]
theorem prd_shaped (p : Int × Int) : SeqAt.shaped (prd p) = true := by
  unfold SeqAt.shaped
  rw [prd_can]
  simp [prd, PyData.depth, PyData.depthAll]
theorem prds_can : ∀ ps : List (Int × Int), PyData.canLayAll0 (ps.map prd) = true
  | [] => by simp [PyData.canLayAll0]
  | p :: r => by simp [PyData.canLayAll0, prd_can p, prds_can r]
theorem ints_can : ∀ ns : List Int, PyData.canLayAll0 (ns.map PyData.int) = true
  | [] => by simp [PyData.canLayAll0]
  | n :: r => by simp [PyData.canLayAll0, PyData.canLay0, ints_can r]
theorem prd_eqv (p q : Int × Int) : PyData.eqv (prd p) (prd q) = decide (p = q) := by
  obtain ⟨a, b⟩ := p
  obtain ⟨c, d⟩ := q
  simp only [prd, PyData.eqv, PyData.eqvAll, Bool.and_true]
  by_cases h1 : a = c <;> by_cases h2 : b = d <;> simp [h1, h2]
theorem int_shaped (n : Int) : SeqAt.shaped (.int n) = true := by simp [SeqAt.shaped, PyData.canLay0, PyData.depth]
theorem ints_dp {K : PySem.W.Frag} {H : Hp} : ∀ ns : List Int, DpAll K H (ns.map V.int) (ns.map PyData.int)
  | [] => .nil
  | n :: r => .cons (.int n) (ints_dp r)
theorem any_ints (n : Int) (ns : List Int) : ((ns.map PyData.int).any fun z => PyData.eqv z (.int n)) = decide (n ∈ ns) := by
  induction ns with
  | nil => rfl
  | cons m r ih =>
    rw [List.map_cons, List.any_cons, ih]
    show ((m == n) || decide (n ∈ r)) = decide (n ∈ m :: r)
    by_cases e : n = m
    · subst e; simp
    · have e2 : ¬ m = n := fun q => e q.symm
      simp [e, e2]
theorem any_prds (p : Int × Int) (ps : List (Int × Int)) : ((ps.map prd).any fun z => PyData.eqv z (prd p)) = decide (p ∈ ps) := by
  induction ps with
  | nil => rfl
  | cons q r ih =>
    rw [List.map_cons, List.any_cons, ih, prd_eqv]
    by_cases e : p = q
    · subst e; simp
    · have e2 : ¬ q = p := fun h => e h.symm
      simp [e, e2]
end XL
set_option Elab.async false
set_option linter.all false
set_option maxRecDepth 100000
set_option maxHeartbeats 4000000
/-! XOwn: o[i], o[i] = v by own methods. -/
namespace XL
open PySem PySem.Spec PyProof.Rows L2
section
variable {X : Cx} {CX : CXT} {C f : Addr} {fd : FuncData} {ps : List Str} {sp : Sp} {E : XK} {n : Nat} {o i : Expr} {to ti : TE} {pos : Pos}
def yIxO (C : Addr) (sp : Sp) (E : XK) : R2 := fun x y H Q => ∃ a dx fs, x = .ref a ∧ H a = some (.ins C dx fs) ∧ sp [.ref a, y] H Q E
theorem pe_ixO (ho : PE X o to) (hi : PE X i ti) (F : FnOk X.prog X.w X.K X.mg X.base CX n f fd ps sp) (hs : PySem.W.findIn X.K (.ref C) "__getitem__" = some (some (.ref f))) (hf : PySem.W.fnIn X.K f = true) (hfn : PySem.W.isFn X.K (.ref f) = true)
    (hb : Binds X.K fd ps []) (hx : Passes CX X E) (hr : Room (n + 1) X.A) (hsl : ∀ x v, subscripted i true (.ref x) v = runValue (.builtin "lifetime.subscript" ⟨[.ref x, v], []⟩) := by intro _ _; with_unfolding_all rfl) :
    PE X (.Subscript o i pos) (tOp (yIxO C sp E) to ti) := by
  refine ⟨fun pins s σ H Q I h => ?_⟩
  refine Subscript_ (thn (ho.run pins s σ H _ I h) fun v s1 ⟨x, H1, I1, r1, q1⟩ => thn (hi.run pins s1 σ H1 _ I1 q1) fun u s2 ⟨y, H2, I2, r2, q2⟩ => ?_)
  obtain ⟨a, dx, fs, rfl, ha, hsp⟩ := q2
  cases r1
  obtain ⟨mA, J, _⟩ := ins_get I2.hok ha
  obtain ⟨od, J, _⟩ := J.look
  obtain ⟨m, hF⟩ := I2.fr
  refine PySem.W.sub_K hF I2.ok.mod.kin J hs hf hfn ?_ (hsl _ _)
  have hl : ([Value.ref a, u] ++ []).length = ps.length := F.len _ _ _ _ hsp
  refine wpAny_call (codeAny_mono (F.run X.A.in1 X.stack s2 H2 ⟨[.ref a, u], []⟩ [.ref a, u] [.ref a, y] Q E hr.in1 I2.env0.in1 (hb s2 [.ref a, u] I2.kIn hl) (.cons rfl (.cons r2 .nil)) hsp) fun r s' hq => ?_)
  cases r with
  | error e => exact hx pins σ H2 s2 e s' I2 hq
  | ok fl =>
    cases fl with
    | ret u => exact I2.after hq
    | next => exact False.elim hq
    | brk => exact False.elim hq
    | cont => exact False.elim hq
def yStO (C : Addr) (sp : Sp) (E : XK) : TSet := fun x y v H Q => ∃ a dx fs, x = .ref a ∧ H a = some (.ins C dx fs) ∧ sp [.ref a, y, v] H (fun _ H' => Q H') E
theorem set_own (F : FnOk X.prog X.w X.K X.mg X.base CX n f fd ps sp) (hq : PySem.W.noSeq X.K C = true) (hs : PySem.W.findIn X.K (.ref C) "__setitem__" = some (some (.ref f))) (hfn : PySem.W.isFn X.K (.ref f) = true)
    (hb : Binds X.K fd ps []) (hx : Passes CX X E) (hr : Room n X.A) : PSet X (yStO C sp E) := by
  intro pins s σ H x y v xv yv vv Q I rx ry rv h
  obtain ⟨a, dx, fs, rfl, ha, hsp⟩ := h
  cases rx
  obtain ⟨mA, J, _⟩ := ins_get I.hok ha
  obtain ⟨od, J, _⟩ := J.look
  obtain ⟨m, hF⟩ := I.fr
  refine PySem.W.ksp_setItem hF I.ok.mod.kin J hq hs hfn ?_
  refine wpAny_mono (run_fn (us := [.ref a, yv, vv]) (vs := [.ref a, y, v]) (dvs := []) F hr hb .nil hx I (.cons rfl (.cons ry (.cons rv .nil))) hsp) (fun r s' q => ?_) fun _ _ e => e
  obtain ⟨z, H', I', rz, q⟩ := q
  exact ⟨H', I', q⟩
end
end XL
set_option Elab.async false
set_option linter.all false
set_option maxRecDepth 100000
set_option maxHeartbeats 4000000
/-! XTup: tuples made by a display or by +, as objects without a dict. -/
namespace XL
open PySem PySem.Spec PyProof.Rows L2
section
variable {X : Cx} {es : List Expr} {t : TA} {pos : Pos}
def tTupF (t : TA) : TE := fun σ H Q => t σ H fun xs H1 => xs.length ≤ sizeLine ∧ ∀ p ob, H1 p = none → ob.dict = none → Q (.ref p) (upd H1 p (.frz ob (.tup xs)))
theorem pe_tupF {x1} (h : PA X es t) : PE X (.Tuple es x1 pos) (tTupF t) := by
  refine ⟨fun pins s σ H Q I hq => ?_⟩
  refine wpAny_Tuple_spliced (thn (h.run pos pins s σ H _ I hq) fun us s1 ⟨xs, H1, I1, r, z, q⟩ => ⟨by rw [← r.length]; exact z, ?_⟩)
  have hf : H1 s1.heap.objs.size = none := I1.hok.fresh (Nat.le_refl _)
  refine ⟨.ref s1.heap.objs.size, _, I1.laid (t' := s1.toks) (o := .frz { cls := .type "tuple", data := .seq us.toArray } (.tup xs)) (fun b u e => Heap.get?_push_of_some _ e) (Nat.le_refl _) ?_, rfl, q _ _ hf rfl⟩
  exact ⟨Heap.get?_push_size _ rfl, z, us, r, ⟨_, Heap.get?_push_size _ rfl, rfl, _, rfl⟩⟩
def rCatF (K : PySem.W.Frag) : R2 := fun x y H Q => ∃ a b xs ys, x = .ref a ∧ y = .ref b ∧ SqT K H a xs ∧ SqT K H b ys ∧ xs.length + ys.length ≤ sizeLine ∧
  (xs = [] → Q (.ref b) H) ∧ (xs ≠ [] → ys = [] → Q (.ref a) H) ∧ (xs ≠ [] → ys ≠ [] → ∀ p ob, H p = none → ob.dict = none → Q (.ref p) (upd H p (.frz ob (.tup (xs ++ ys)))))
theorem op_catFK (K : PySem.W.Frag) (h : X.K = K := by rfl) : OpR X (binaryOp .Add) (rCatF K) := by
  subst h
  intro pins s σ H x y v u Q I rx ry h
  obtain ⟨a, b, xs, ys, rfl, rfl, ha, hb, hz, q0, q1, q2⟩ := h
  by_cases hx : xs = []
  · exact op_catA pins s σ H _ _ v u Q I rx ry ⟨a, b, xs, ys, rfl, rfl, ha, hb, hz, q0, fun z => absurd hx z, fun z => absurd hx z⟩
  · cases rx
    cases ry
    obtain ⟨its, r1, p1, _⟩ := I.tuple ha
    obtain ⟨its2, r2, p2, _⟩ := I.tuple hb
    refine HT.cat_tup p1 p2 (fun z => hx (r1.nil_iff.mp z)) (fun z => ⟨.ref a, H, I, rfl, q1 hx (r2.nil_iff.mp z)⟩) (fun z => ?_) (by rw [← r1.length, ← r2.length]; exact hz)
    refine ⟨.ref s.heap.objs.size, _, I.laid (t' := s.toks) (o := .frz { cls := .type "tuple", data := .seq (its ++ its2).toArray } (.tup (xs ++ ys))) (fun b ob q => Heap.get?_push_of_some _ q) (Nat.le_refl _) ?_, rfl, q2 hx (fun w => z (r2.nil_iff.mpr w)) _ _ (I.hok.fresh (Nat.le_refl _)) rfl⟩
    exact ⟨Heap.get?_push_size _ rfl, by rw [List.length_append]; exact hz, _, r1.append r2, IsTup.new _ _⟩
end
section
variable {K : PySem.W.Frag} {a : Addr} {xs : List V} {Qd : Hp → Prop} {B : V → Hp → (Hp → Prop) → Prop} {H0 : Hp}
/-- a clause of a comprehension over a list -/
theorem loopL (Pv : Nat → Hp → Prop) (h0 : Pv 0 H0) (hl : ∀ k H, Pv k H → SqL K H a xs) (hs : ∀ k x H, xs[k]? = some x → Pv k H → B x H (Pv (k + 1))) (hd : ∀ H, Pv xs.length H → Qd H) :
    ∃ W : Nat → Nat → Hp → Prop, (∃ m, W 0 m H0) ∧ ∀ i m H, W i m H → ((Itl K a).stop i H ∧ Qd H) ∨ ((Itl K a).go i H ∧ ∃ Nx : Hp → Prop, (∀ H', Nx H' → ∃ m', m' < m ∧ W (i + 1) m' H') ∧ ∀ x H', (Itl K a).yld i H x H' → B x H' Nx) := by
  refine ⟨fun i m H => m = xs.length - i ∧ i ≤ xs.length ∧ Pv i H, ⟨xs.length, by simp, Nat.zero_le _, h0⟩, ?_⟩
  rintro i m H ⟨rfl, hi, p⟩
  have q := hl i H p
  by_cases hlt : i < xs.length
  · refine .inr ⟨⟨xs, xs[i], q, by simp [hlt]⟩, Pv (i + 1), fun H' p' => ⟨xs.length - (i + 1), by omega, rfl, hlt, p'⟩, fun x H' y => ?_⟩
    obtain ⟨e, y⟩ := y
    subst e
    exact hs i x _ (y xs q) p
  · have e : i = xs.length := by omega
    subst e
    exact .inl ⟨⟨xs, q, Nat.le_refl _⟩, hd H p⟩
/-- a clause of a comprehension over a range -/
theorem loopR {lo : Int} {n : Nat} (Pv : Nat → Hp → Prop) (h0 : Pv 0 H0) (hs : ∀ k H, k < n → Pv k H → B (.int (lo + k)) H (Pv (k + 1))) (hd : ∀ H, Pv n H → Qd H) :
    ∃ W : Nat → Nat → Hp → Prop, (∃ m, W 0 m H0) ∧ ∀ i m H, W i m H → ((Itr lo n).stop i H ∧ Qd H) ∨ ((Itr lo n).go i H ∧ ∃ Nx : Hp → Prop, (∀ H', Nx H' → ∃ m', m' < m ∧ W (i + 1) m' H') ∧ ∀ x H', (Itr lo n).yld i H x H' → B x H' Nx) := by
  refine ⟨fun i m H => m = n - i ∧ i ≤ n ∧ Pv i H, ⟨n, by simp, Nat.zero_le _, h0⟩, ?_⟩
  rintro i m H ⟨rfl, hi, p⟩
  by_cases hlt : i < n
  · refine .inr ⟨hlt, Pv (i + 1), fun H' p' => ⟨n - (i + 1), by omega, rfl, hlt, p'⟩, fun x H' y => ?_⟩
    obtain ⟨e, y⟩ := y
    subst e y
    exact hs i _ hlt p
  · have e : i = n := by omega
    subst e
    exact .inl ⟨Nat.le_refl _, hd H p⟩
/-- row + (item,) -/
theorem cat_one {G H : Hp} {M : List (Addr × HO)} {r : Addr} {n : List Int} {i : Int} {Q : VK} (S : Sep G M H) (hr : TupF G r (n.map V.int)) (hl : n.length ≤ 1000)
    (q : ∀ (p : Addr) (G' H' : Hp), Same G G' → Sep G' M H' → TupF G' p ((n ++ [i]).map V.int) → Q (.ref p) H') :
    [V.int i].length ≤ sizeLine ∧ ∀ p ob, H p = none → ob.dict = none → rCatF K (.ref r) (.ref p) (upd H p (.frz ob (.tup [.int i]))) Q := by
  refine ⟨sz, fun p ob np hob => ?_⟩
  have S1 := S.newG (o := .frz ob (.tup [.int i])) np
  have s1 := S.grow (o := .frz ob (.tup [.int i])) np
  have h1 : TupF (upd G p (.frz ob (.tup [.int i]))) p [.int i] := ⟨ob, hob, upd_same⟩
  refine ⟨r, p, n.map V.int, [.int i], rfl, rfl, ((hr.same s1).same S1.1).tu.sq, (h1.same S1.1).tu.sq, small (by rw [List.length_map]; simp; omega), fun e => ?_, fun _ e => (nomatch e), fun _ _ p2 ob2 np2 hob2 => ?_⟩
  · have e2 : n = [] := List.map_eq_nil_iff.mp e
    subst e2
    exact q p _ _ s1 S1 h1
  · have e3 : n.map V.int ++ [V.int i] = (n ++ [i]).map V.int := by rw [List.map_append]; rfl
    rw [e3]
    exact q p2 _ _ (s1.trans (S1.grow np2)) (S1.newG np2) ⟨ob2, hob2, upd_same⟩
end
end XL
set_option Elab.async false
set_option linter.all false
set_option maxRecDepth 100000
set_option maxHeartbeats 4000000
/-! XExc: an error of the program's own, class E(ScreenError): __init__(self, x): super().__init__(f'..{x!r}'); self.x = x: made, raised, caught. -/
namespace PySem
namespace XExc
open PySem.W PySem.Calls PyProof.Rows PySem.HandSPX
/-! ### the text of __init__ -/
def iA (fld : Str) (p1 p2 : Pos) : Arguments := { posonlyargs := [], args := [{ arg := "self", annotation := none, pos := p1 }, { arg := fld, annotation := none, pos := p2 }], vararg := none, kwonlyargs := [], kw_defaults := [], kwarg := none, defaults := [] }
structure Ps where
  a : Pos
  b : Pos
  c : Pos
  d : Pos
  e : Pos
  f : Pos
  g : Pos
  h : Pos
  i : Pos
  j : Pos
  k : Pos
  l : Pos
  m : Pos
  cv : Int
  cp : cv = 114 ∨ cv = -1
def iSup (q : Ps) : Expr := .Call (.Name "super" q.a) [] [] q.b
def iArg (fld : Str) (msg : Str) (q : Ps) : Expr := .JoinedStr [.Constant (.str msg) 0 q.d, .FormattedValue (.Name fld q.e) q.cv none q.f] q.g
def iCall (fld : Str) (msg : Str) (q : Ps) : Expr := .Call (.Attribute (iSup q) "__init__" q.c) [iArg fld msg q] [] q.h
def iB (fld : Str) (msg : Str) (q : Ps) : List Stmt := [.Expr (iCall fld msg q) q.i, .Assign [.Attribute (.Name "self" q.j) fld q.k] (.Name fld q.l) q.m]
/-- how the call is evaluated (the positions decide nothing here) -/
def Evals (fld msg : Str) (q : Ps) : Prop := ∃ pl : Env → Sem Bool, ∀ env : Env, eval (iCall fld msg q) env = (do
  let ov ← attributeBase (iSup q) "__init__" env (eval (iSup q) env)
  standAt q.c.atName
  let (f, first) ← holding [ov] (getMethod ov "__init__" (pl env))
  callWith q.h f first (backTo q.h (starEach [iArg fld msg q] env)) [])
def iN (fld : Str) : List (Str × NameKind) := [(PySem.Str.ofString "self", .local), (fld, .local), (PySem.Str.ofString "__class__", .free), (PySem.Str.ofString "super", .globalImplicit)]
def iS (fld : Str) : Scope := { kind := .function, names := iN fld, isGenerator := false, isCoroutine := false, more := [] }
/-- what the written part says of the class at C and of its __init__ at fI -/
structure ExTxt (P : Program) (K : Frag) (mg : Str → Option Value) (nm fld msg : Str) (C fI : Addr) : Prop where
  gC : mg nm = some (.ref C)
  cls : ∃ nm q N bs bm sn sub ab col dd k0 k1 k2 k3 k5, K.lookup C = some (excClassObj nm q C N bs bm true sn sub ab col dd k0 k1 k2 k3 k5 "ValueError.__new__") ∧ refsVE bm = true
  sa : findIn K (.ref C) "__setattr__" = some (some (.builtin "object.__setattr__"))
  ga : findIn K (.ref C) "__getattribute__" = some (some (.builtin "BaseException.__getattribute__"))
  gg : findIn K (.ref C) "__getattr__" = some none
  noN : findIn K (.ref C) fld = some none
  iC : findIn K (.ref C) "__init__" = some (some (.ref fI))
  tC : typeIn K (.ref fI) = some (.type "function")
  kC : keepIn K (.ref C) = true
  exC : subIn K (.ref C) (.type "BaseException") = some true
  tyC : typeIn K (.ref C) = some (.type "type")
  hdC : hasDictIn K C = true
  fn : ∃ (oc kV doc pm ct : Value) (od an : Option Addr) (osl : Array (Option Value)) (qual : Str) (cda cc : Addr) (p1 p2 : Pos) (q : Ps) (vs : Array Value) (file : Str) (tf : Tok) (ccl cl : Value) (cdd cld : Option Addr) (ccs csl : Array (Option Value)),
    K.lookup fI = some ⟨oc, od, .func (ksFn "__init__" qual (iA fld p1 p2) (iB fld msg q) (iS fld) .none kV doc pm an (.ref cda) ct cc), osl⟩ ∧ codeIn K (.ref cda) qual = true ∧ K.lookup cda = some ⟨ccl, cdd, .fields vs, ccs⟩ ∧ vs[2]? = some (.str file tf) ∧
    ((P.main.file : Str) == file) = true ∧ K.lookup cc = some ⟨cl, cld, .cell (some (.ref C)), csl⟩ ∧ Evals fld msg q ∧
    ∀ x v : Value, bindArgs (ksFn "__init__" qual (iA fld p1 p2) (iB fld msg q) (iS fld) .none kV doc pm an (.ref cda) ct cc) ⟨[x, v], []⟩ = pure [(("self" : Str), x), (fld, v)]
  sup : ks_superIn K C C "__init__" = some (some (.builtin "ValueError.__init__"))
  subV : subIn K (.ref C) (.type "ValueError") = some true
  mroS : mroIn K C (.ref C) = some true
  opq : nsIn K cStatics "thirdparty.any" = some none
  htop : (P.main.scope.names.lookup ("super" : Str)).isSome = false
  hsup : mg "super" = none
  f1 : fld ≠ "self"
  f2 : fld ≠ "__class__"
  f3 : fld ≠ "super"
  f4 : (fld == ("__debug__" : Str)) = false
  ml : msg.length ≤ 1000
/-- where the program stands -/
def PF (P : Program) (fl : Str) : Prop := ((P.main.file : Str) == fl) = true ∧ (P.main.scope.names.lookup ("super" : Str)).isSome = false
/-- what can be told in the message -/
def Rp (v : Value) : Prop := (∃ (y : Str) (t : Tok), v = .str y t ∧ (reprText y).length ≤ 100000) ∨ ∃ (i : Int) (t : Tok), v = .int i t ∧ i.natAbs.log2 < 1920
structure InitEnd (h h' : Heap) (x C dx : Addr) (fld : Str) (v : Value) : Prop where
  keep : ∀ b o, b ≠ x → h.get? b = some o → h'.get? b = some o
  obj : ∃ t1 : Addr, h'.get? x = some { cls := .ref C, dict := some dx, data := .fields #[.ref t1, .none, .none, .none, .bool false, .none] }
  dbig : h.objs.size ≤ dx
  dne : dx ≠ x
  ns : h'.Ns1 dx (fun y => if y = fld then some v else none)
structure OwnMade (h h' : Heap) (e C d : Addr) (fld : Str) (v : Value) : Prop where
  keep : ∀ b o, h.get? b = some o → h'.get? b = some o
  new : h.objs.size ≤ e
  obj : ∃ oe vs, h'.get? e = some oe ∧ oe.cls = .ref C ∧ oe.dict = some d ∧ oe.data = .fields vs ∧ vs[1]? = some .none
  dbig : h.objs.size ≤ d
  dne : d ≠ e
  ns : h'.Ns1 d (fun y => if y = fld then some v else none)
section
variable {prog : Program} {w : World} {A : Around} {E : Value → Shared → Prop} {h : Heap} {g : Array GenState} {d : Drawn} {t : Nat} {os : OsState}
variable {nm q : Str} {C N : Addr} {bs bm : List Value} {hdct : Bool} {sn : List Str} {sub : List Value} {ab : Bool} {col : Option Bool} {dd : Option Addr} {k0 k1 k2 k3 k5 : Option Value}
theorem call_mw {u e t0 : Addr} {rest : List Value} {Q : Value → Shared → Prop}
    (hC : h.get? C = some (excClassObj nm q C N bs bm hdct sn sub ab col dd k0 k1 k2 k3 k5 "ValueError.__new__")) (he : h.get? e = some (excO C t0)) (hu : h.get? u = some (kxs_mw "ValueError.__init__" e)) (hrest : rest.length ≤ sizeLine)
    (hq : ∀ h' t1, (∀ b o, b ≠ e → h.get? b = some o → h'.get? b = some o) → h.objs.size ≤ h'.objs.size → h'.get? e = some (excO C t1) → Q .none ⟨h', g, d, t, os⟩) :
    wpAny (model prog w) A (call (.ref u) rest) Q E ⟨h, g, d, t, os⟩ := by
  refine wpAny_call (codeAny_of_tree ?_)
  show wpAny _ A.in1 (callAny (.ref u) ⟨rest, []⟩) _ _ _
  simp only [callAny]
  refine wpAny_bind (wpAny_load hu ?_)
  simp only [kxs_mw, show (Value.type "method-wrapper" == Value.type "method" || Value.type "method-wrapper" == Value.type "builtin_function_or_method" || Value.type "method-wrapper" == Value.type "method-wrapper") = true by decide, if_true]
  refine W.KFB.if_so (by decide) ?_
  refine wpAny_bind (check_bound_init F.excBase_ValueError.toExcCallFacts hC he rfl ?_)
  refine wpAny_bind (wpAny_pure (wpAny_pure ?_))
  refine ⟨plainId_quiet F.excBase_ValueError.init.plain _, codeAny_builtin F.excBase_ValueError.initEntry ?_⟩
  rw [Around.under_plainId F.excBase_ValueError.init.plain _]
  wp_walk
  refine hq _ h.objs.size (fun b o hb ho => ?_) ?_ ?_
  · rw [Heap.get?_update_other _ _ (Ne.symm hb)]
    exact Heap.get?_push_of_some _ ho
  · simp [Heap.size_push]
  · rw [Heap.get?_update_self _ (Heap.get?_push_of_some _ he) rfl]
    rfl
end
section
variable {prog : Program} {w : World} {A : Around} {E : Value → Shared → Prop} {R : Result → Shared → Prop} {s : Shared} {K : Frag} {mg mb : Str → Option Value} {nm fld msg : Str} {C fI : Addr}
theorem one_size (v : Value) : [v].length ≤ sizeLine := by
  rw [sizeLine_eq]
  exact (by decide : 1 ≤ 16777216)
theorem reprChar_ge (q c : Nat) : 1 ≤ (Builtin.Str.reprChar q c).length := by
  unfold Builtin.Str.reprChar
  dsimp only
  repeat' split
  all_goals simp only [List.length_append, List.length_cons, List.length_nil]
  all_goals omega
theorem foldl_repr_ge1 (q : Nat) : ∀ (l : List Nat) (acc : Array Nat), acc.size + l.length ≤ (l.foldl (fun out c => out ++ (Builtin.Str.reprChar q c).toArray) acc).size
  | [], acc => Nat.le_refl _
  | c :: r, acc => by
    have ih := foldl_repr_ge1 q r (acc ++ (Builtin.Str.reprChar q c).toArray)
    have hc := reprChar_ge q c
    simp only [List.foldl_cons, List.length_cons]
    simp only [Array.size_append, List.size_toArray] at ih
    omega
theorem reprText_ge (x : Str) : x.length ≤ (reprText x).length := by
  unfold reprText
  show x.length ≤ ((x.cps.foldl (fun out c => out ++ (Builtin.Str.reprChar (reprQuote x) c).toArray) #[reprQuote x]).push (reprQuote x)).size
  rw [Array.size_push, ← Array.foldl_toList]
  have := foldl_repr_ge1 (reprQuote x) x.cps.toList #[reprQuote x]
  have e : x.cps.toList.length = x.length := by simp [Str.length]
  rw [e] at this
  omega
/-- f'..{v!r}' -/
theorem told_ok {env : Env} {q : Ps} {m : Str → Option Value} {v : Value} {Q : Value → Shared → Prop} (hn : s.heap.Ns env.locals m) (hv : m fld = some v) (hr : Rp v) (hml : msg.length ≤ 1000) (hk : env.scope.kind = .function) (hl : env.kindOf fld = some .local) (hd : (fld == ("__debug__" : Str)) = false)
    (h : ∀ u tk, Q u { s with toks := tk }) : wpAny (model prog w) A (eval (iArg fld msg q) env) Q E s := by
  unfold iArg
  have sm : ∀ n : Nat, n ≤ 200000 → n ≤ sizeLine := fun n hn => Nat.le_trans hn (by decide)
  rcases q.cp with ecv | ecv
  · rw [ecv]
    refine wpAny_JoinedStr ?_
    have e0 : evalEach [Expr.Constant (.str msg) 0 q.d, .FormattedValue (.Name fld q.e) 114 none q.f] env = [eval (.Constant (.str msg) 0 q.d) env, eval (.FormattedValue (.Name fld q.e) 114 none q.f) env] := by first | rfl | simp [evalEach]
    rw [e0]
    refine Calls.Constant_str ⟨msg, _, rfl, ?_, ?_⟩
    · rw [Str.length_append]
      exact sm _ (by show 0 + msg.length ≤ _; omega)
    refine wpAny_FormattedValue_repr (ESX.ldL hn hv ?_ hk hl hd)
    rcases hr with ⟨y, t, rfl, hz⟩ | ⟨i, t, rfl, hz⟩
    · have hz' : (reprText y).length ≤ sizeLine := sm _ (by omega)
      have out : ∀ (tk : Tok) (tt : Nat), ∃ (y' : Str) (t' : Tok), Value.str (reprText y) tk = .str y' t' ∧ (Str.empty ++ msg ++ y').length ≤ sizeLine ∧ Joins (model prog w) A E [] (Str.empty ++ msg ++ y') (fun out s₁ => out.length ≤ sizeLine ∧ Q (.str out s₁.toks) { s₁ with toks := s₁.toks + 1 }) { s with toks := tt } := fun tk tt => by
        have hl : (Str.empty ++ msg ++ reprText y).length ≤ sizeLine := by
          rw [Str.length_append, Str.length_append]
          exact sm _ (by show 0 + msg.length + _ ≤ _; omega)
        exact ⟨_, _, rfl, hl, hl, h _ _⟩
      exact pyReprObj_str (wpAny_formatField_str (out _ _) (out _ _) hz') hz'
    · have hz' := int_text_fits hz
      have ln : (toString i : Str).length ≤ 100000 := by
        have e := int_text_length_le (k := 1920) (by decide) hz
        show (Str.ofString (toString i)).length ≤ 100000
        rw [ofString_length]
        omega
      have out : ∀ (tk : Tok) (tt : Nat), ∃ (y' : Str) (t' : Tok), Value.str (toString i) tk = .str y' t' ∧ (Str.empty ++ msg ++ y').length ≤ sizeLine ∧ Joins (model prog w) A E [] (Str.empty ++ msg ++ y') (fun out s₁ => out.length ≤ sizeLine ∧ Q (.str out s₁.toks) { s₁ with toks := s₁.toks + 1 }) { s with toks := tt } := fun tk tt => by
        have hl : (Str.empty ++ msg ++ (toString i : Str)).length ≤ sizeLine := by
          rw [Str.length_append, Str.length_append]
          exact sm _ (by show 0 + msg.length + _ ≤ _; omega)
        exact ⟨_, _, rfl, hl, hl, h _ _⟩
      exact pyReprObj_int hz (wpAny_formatField_str (out _ _) (out _ _) hz')
  · rw [ecv]
    refine wpAny_JoinedStr ?_
    have e0 : evalEach [Expr.Constant (.str msg) 0 q.d, .FormattedValue (.Name fld q.e) (-1) none q.f] env = [eval (.Constant (.str msg) 0 q.d) env, eval (.FormattedValue (.Name fld q.e) (-1) none q.f) env] := by first | rfl | simp [evalEach]
    rw [e0]
    refine Calls.Constant_str ⟨msg, _, rfl, ?_, ?_⟩
    · rw [Str.length_append]
      exact sm _ (by show 0 + msg.length ≤ _; omega)
    refine wpAny_FormattedValue_plain (ESX.ldL hn hv ?_ hk hl hd)
    rcases hr with ⟨y, t, rfl, hz⟩ | ⟨i, t, rfl, hz⟩
    · have hy := reprText_ge y
      have hl : (Str.empty ++ msg ++ y).length ≤ sizeLine := by
        rw [Str.length_append, Str.length_append]
        exact sm _ (by show 0 + msg.length + _ ≤ _; omega)
      have out : ∀ (tk : Tok) (tt : Nat), ∃ (y' : Str) (t' : Tok), Value.str y tk = .str y' t' ∧ (Str.empty ++ msg ++ y').length ≤ sizeLine ∧ Joins (model prog w) A E [] (Str.empty ++ msg ++ y') (fun out s₁ => out.length ≤ sizeLine ∧ Q (.str out s₁.toks) { s₁ with toks := s₁.toks + 1 }) { s with toks := tt } := fun tk tt => ⟨_, _, rfl, hl, hl, h _ _⟩
      exact wpAny_formatField_str (out _ _) (out _ _) (sm _ (by omega))
    · have hz' := int_text_fits hz
      have ln : (toString i : Str).length ≤ 100000 := by
        have e := int_text_length_le (k := 1920) (by decide) hz
        show (Str.ofString (toString i)).length ≤ 100000
        rw [ofString_length]
        omega
      have hl : (Str.empty ++ msg ++ (toString i : Str)).length ≤ sizeLine := by
        rw [Str.length_append, Str.length_append]
        exact sm _ (by show 0 + msg.length + _ ≤ _; omega)
      exact wpAny_formatField_int hz ⟨_, _, rfl, hl, hl, h _ _⟩
end
section
variable {prog : Program} {w : World} {A : Around} {E : Value → Shared → Prop} {R : Result → Shared → Prop} {K : Frag} {mg mb : Str → Option Value} {nm fld msg : Str} {C fI : Addr}
theorem kept_but {K : Frag} {h h' : Heap} {x : Addr} (X : K.In h) (hx : K.lookup x = none) (k : ∀ b o, b ≠ x → h.get? b = some o → h'.get? b = some o) : K.In h' := fun a o e =>
  k a o (fun z => by rw [z, hx] at e; cases e) (X a o e)
theorem exc_init (T : ExTxt prog K mg nm fld msg C fI) {x t0 : Addr} {v : Value} {hp : Heap} {g : Array GenState} {dr : Drawn} {tk : Nat} {os : OsState} (X : K.In hp) (hlim : hp.NoLimit) (hG : hp.Ns mainGlobals mg) (hB : hp.Ns builtinsNs mb) (hbb : ∀ x : Str, x ≠ "__name__" → mb x = bootBuiltins x)
    (hx : hp.get? x = some (excO C t0)) (hnx : K.lookup x = none) (hroom : A.depth < recursionLimit) (hr : Rp v)
    (hq : ∀ h' tk' dx, InitEnd hp h' x C dx fld v → R (.ok (.ret .none)) ⟨h', g, dr, tk', os⟩) :
    codeAny (model prog w) A (.call (.ref fI) ⟨[.ref x, v], []⟩) R ⟨hp, g, dr, tk, os⟩ := by
  obtain ⟨oc, kV, doc, pm, ct, od, an, osl, qual, cda, cc, p1, p2, q, vs, file, tf, ccl, cl, cdd, cld, ccs, csl, ho, hcd, hcda, hvs, hfile, hcc, ⟨pl, hev⟩, hbind⟩ := T.fn
  obtain ⟨nm', q', N, bs, bm, sn, sub, ab, col, dd, k0, k1, k2, k3, k5, hC, hbm⟩ := T.cls
  have hcl : clsIn K C = some { name := nm', bases := bs, mro := .ref C :: bm, ns := N, qualname := q', hasDict := true, slotNames := sn, subclasses := sub, abstract := ab, collection := col, hasDel := false } := by unfold clsIn; rw [hC] <;> rfl
  have e1 : (iS fld).names.lookup fld = some .local := by
    show (iN fld).lookup fld = _
    unfold iN
    have z : (fld == PySem.Str.ofString "self") = false := by simpa using T.f1
    simp [List.lookup, z]
  have e2 : (iS fld).names.lookup ("self" : Str) = some .local := rfl
  have e3 : (iS fld).names.lookup ("__class__" : Str) = some .free := by
    show (iN fld).lookup ("__class__" : Str) = _
    unfold iN
    have z : (("__class__" : Str) == fld) = false := by simpa using Ne.symm T.f2
    have z2 : (("__class__" : Str) == PySem.Str.ofString "self") = false := by decide
    simp [List.lookup, z, z2]
  have e4 : (iS fld).names.lookup ("super" : Str) = some .globalImplicit := by
    show (iN fld).lookup ("super" : Str) = _
    unfold iN
    have z : (("super" : Str) == fld) = false := by simpa using Ne.symm T.f3
    have z2 : (("super" : Str) == PySem.Str.ofString "self") = false := by decide
    have z3 : (("super" : Str) == PySem.Str.ofString "__class__") = false := by decide
    simp [List.lookup, z, z2, z3]
  refine ks_codeAny_call_defAt (fd := ksFn "__init__" qual (iA fld p1 p2) (iB fld msg q) (iS fld) .none kV doc pm an (.ref cda) ct cc) (body := iB fld msg q) (binds := [("self", .ref x), (fld, v)]) hroom (X _ _ ho) rfl hlim (codeRec_of X hcd) rfl (BindsTo.of_eq (hbind _ _)) ?_ ?_ (fun h₁ hn k => ?_) rfl rfl rfl
  · intro y hy
    have hy : y ∈ iN fld := hy
    unfold iN at hy
    simp only [List.mem_cons, List.not_mem_nil, or_false] at hy
    rcases hy with rfl | rfl | rfl | rfl <;> exact fun z => nomatch z
  · intro y hy
    simp only [List.mem_cons, List.not_mem_nil, or_false] at hy
    rcases hy with rfl | rfl
    · exact e2
    · exact e1
  have X₁ : K.In h₁ := X.keeps k
  have hxL : hp.objs.size ≠ x := Nat.ne_of_gt (Heap.lt_size hx)
  have hx₁ := k _ _ hx
  have mS : List.lookup ("self" : Str) (List.reverse [(("self" : Str), Value.ref x), (fld, v)]) = some (.ref x) := by
    show List.lookup ("self" : Str) [(fld, v), (("self" : Str), Value.ref x)] = _
    have z : (("self" : Str) == fld) = false := by simpa using Ne.symm T.f1
    simp [List.lookup, z]
  have mF : List.lookup fld (List.reverse [(("self" : Str), Value.ref x), (fld, v)]) = some v := by
    show List.lookup fld [(fld, v), (("self" : Str), Value.ref x)] = _
    simp [List.lookup]
  refine ks_wpAt_execs_cons (ks_wpAt_Expr_any (ks_wpAt_MethodCall (o := iSup q) (name := "__init__") (he := hev _) ?_))
  have oC := X₁ _ _ hC
  refine ks_wpAt_super_base (env := callEnv (ksFn "__init__" qual (iA fld p1 p2) (iB fld msg q) (iS fld) .none kV doc pm an (.ref cda) ct cc) hp.objs.size fI) e4 e3 (by decide) rfl (X₁ _ _ ho) rfl rfl rfl (X₁ _ _ hcda) rfl hvs hfile T.htop ?_
  refine ks_loadName_global rfl e4 (loadGlobal_builtin (hG.keeps k) T.hsup (hB.keeps k) ((hbb _ (by decide +kernel)).trans (by first | boot_by_name | rfl | kernel_rfl)) ⟨rfl, ?_⟩)
  refine wpAny_loadName_free rfl e3 rfl ⟨_, X₁ _ _ hcc, rfl⟩ ?_
  refine wpAny_loadName_local rfl e2 hn mS ?_
  refine ks_wpAny_isType_cls oC rfl ⟨rfl, ?_⟩
  refine ks_wpAny_call_super oC rfl hx₁ rfl (fun c e => (nomatch e)) (looks_mroIn X₁ T.mroS) (fun h₂ hso k₂ => ?_)
  have X₂ : K.In h₂ := X₁.keeps k₂
  have hx₂ := k₂ _ _ hx₁
  have hsup : alongIn K "__init__" (((Value.ref C :: bm).dropWhile (· != .ref C)).drop 1) = some (some (.builtin "ValueError.__init__")) := by
    have z := T.sup
    unfold ks_superIn at z
    rw [hcl] at z
    exact z
  have I₂ : InstAt h₂ x (excO C t0) C none := ⟨hx₂, rfl, rfl, trivial⟩
  refine kxs_getMethod kxs_ValueError hso (looks_opaque X₂ T.opq) (l₀ := .ref C :: bm) ?_ rfl X₂ hsup (I₂.type.andThen (looks_subIn X₂ T.subV)) (ks_ne X₂ I₂ hcl) (by decide) ?_
  · exact fun A Q E s k q => wpAny_bind ((looks_clsIn X₂ hcl) A _ E s k (wpAny_pure q))
  have hu : (h₂.push (kxs_mw "ValueError.__init__" x)).get? h₂.objs.size = some (kxs_mw "ValueError.__init__" x) := Heap.get?_push_at rfl rfl
  have k₃ : ∀ b o, h₂.get? b = some o → (h₂.push (kxs_mw "ValueError.__init__" x)).get? b = some o := fun b o e => Heap.get?_push_of_some _ e
  have X₃ := X₂.keeps k₃
  have hn₃ : (h₂.push (kxs_mw "ValueError.__init__" x)).Ns hp.objs.size _ := (hn.keeps k₂).keeps k₃
  refine kxs_callWith (i := "ValueError.__init__") (x := x) rfl (evalArgs_plain ?_)
  show wpAny _ _ (spliced ((false, eval (iArg fld msg q) _) :: backTo q.h (starEach [] _))) _ _ _
  refine Calls.spliced_cons (told_ok hn₃ mF hr T.ml rfl e1 T.f4 fun u tk' => Calls.spliced_nil ⟨hu, ?_⟩)
  show wpAny _ _ (call (.ref h₂.objs.size) [u]) _ _ _
  refine call_mw (X₃ _ _ hC) (k₃ _ _ hx₂) hu (one_size _) fun h₄ t1 k₄ sz₄ hx₄ => ?_
  show wpAt _ _ _ (execs _ _) _ _ _
  refine wpAt_of_wpAny ?_
  have X₄ : K.In h₄ := kept_but X₃ hnx k₄
  have hn₄ : h₄.Ns hp.objs.size (fun x_1 => List.lookup x_1 (List.reverse [(("self" : Str), Value.ref x), (fld, v)])) := by
    obtain ⟨oL, es, ep, hL, r⟩ := hn₃
    exact ⟨oL, es, ep, k₄ _ _ hxL hL, r⟩
  refine wpAny_execs_cons (plainObj_wpAny_Assign_Attribute ?_)
  refine ESX.ldL hn₄ mF (ESX.ldL hn₄ mS ?_ rfl e2) rfl e1 T.f4
  refine set_plain X₄ (ox := excO C t1) (od := none) ⟨hx₄, rfl, rfl, trivial⟩ T.sa ?_
  refine exc_osa X₄ hx₄ hcl (show refsVE (.ref C :: bm) = true from hbm) rfl T.noN (fun h₅ tk₅ dx k₅ dn dne hx₅ hn₅ => ?_)
  show wpAny _ _ (execs _ _) _ _ _
  have z : hp.objs.size < h₄.objs.size := hn₄.lt
  exact wpAny_execs_nil (hq h₅ tk₅ dx ⟨fun b o hb e => k₅ b o hb (k₄ b o hb (k₃ b o (k₂ b o (k b o e)))), ⟨t1, hx₅⟩, Nat.le_of_lt (Nat.lt_of_lt_of_le z dn), dne, hn₅⟩)
end
section
variable {prog : Program} {w : World} {A : Around} {R : Result → Shared → Prop} {K : Frag} {mg mb : Str → Option Value} {nm fld msg : Str} {C fI : Addr}
theorem exc_made (T : ExTxt prog K mg nm fld msg C fI) {v : Value} {hp : Heap} {g : Array GenState} {dr : Drawn} {tk : Nat} {os : OsState} (X : K.In hp) (hlim : hp.NoLimit) (hG : hp.Ns mainGlobals mg) (hB : hp.Ns builtinsNs mb) (hbb : ∀ x : Str, x ≠ "__name__" → mb x = bootBuiltins x) (hroom : A.depth + 1 < recursionLimit) (hr : Rp v)
    (hq : ∀ h' tk' e d, OwnMade hp h' e C d fld v → R (.ok (.ret (.ref e))) ⟨h', g, dr, tk', os⟩) :
    codeAny (model prog w) A (.call (.ref C) ⟨[v], []⟩) R ⟨hp, g, dr, tk, os⟩ := by
  obtain ⟨nm', q', N, bs, bm, sn, sub, ab, col, dd, k0, k1, k2, k3, k5, hC, hbm⟩ := T.cls
  have k : ∀ b o, hp.get? b = some o → ((hp.push (kdv_tup [v])).push (excO C hp.objs.size)).get? b = some o := fun b o e => Heap.get?_push_of_some _ (Heap.get?_push_of_some _ e)
  have hget : ((hp.push (kdv_tup [v])).push (excO C hp.objs.size)).get? (hp.objs.size + 1) = some (excO C hp.objs.size) := by heap_get
  have hnx : K.lookup (hp.objs.size + 1) = none := by
    cases e : K.lookup (hp.objs.size + 1) with
    | none => rfl
    | some o =>
      have z : hp.get? (hp.objs.size + 1) = some o := X _ _ e
      exact absurd (Nat.lt_of_succ_lt (Heap.lt_size z)) (Nat.lt_irrefl _)
  refine call_own F.excBase_ValueError (fun X => refsVE_contains X bm hbm) (X _ _ hC) (looks_findIn X T.iC) (fun self => bind_fn X self T.tC) (one_size v) ?_
  refine exc_init (tk := tk) T (X.keeps k) (hlim.keeps k) (hG.keeps k) (hB.keeps k) hbb hget hnx ?_ hr fun h' tk' dx ⟨k', ⟨t1, hx⟩, dn, dne, hns⟩ => ?_
  · show A.depth + 1 < recursionLimit
    exact hroom
  · have old : ∀ b o, hp.get? b = some o → h'.get? b = some o := fun b o e => k' b o (Nat.ne_of_lt (Nat.lt_succ_of_lt (Heap.lt_size e))) (k b o e)
    have z : hp.objs.size + 1 + 1 ≤ dx := by
      first
        | (simpa only [Heap.size_push] using dn)
        | exact dn
        | (have q := dn; rw [Heap.size_push, Heap.size_push] at q; exact q)
    exact ⟨rfl, hq h' tk' (hp.objs.size + 1) dx ⟨old, Nat.le_succ _, ⟨_, _, hx, rfl, rfl, rfl, rfl⟩, Nat.le_trans (Nat.le_trans (Nat.le_succ _) (Nat.le_succ _)) z, dne, hns⟩⟩
end
end XExc
end PySem
namespace XL
open PySem PySem.Spec PyProof.Rows L2
/-! ### the error, over the abstract heap -/
def RpV (v : V) : Prop := (∃ y : Str, v = .str y ∧ (reprText y).length ≤ 100000) ∨ ∃ i : Int, v = .int i ∧ i.natAbs.log2 < 1920
theorem RpV.rp {v : V} {u : Value} (h : RpV v) (r : RelV v u) : PySem.XExc.Rp u := by
  rcases h with ⟨y, rfl, hz⟩ | ⟨i, rfl, hz⟩
  · obtain ⟨t, rfl⟩ := r
    exact .inl ⟨y, t, rfl, hz⟩
  · obtain ⟨t, rfl⟩ := r
    exact .inr ⟨i, t, rfl, hz⟩
theorem relO_one {fld : Str} {v : V} {v' : Value} (r : RelV v v') (f : Str) : RelO (List.lookup f [(fld, v)]) (if f = fld then some v' else none) := by
  by_cases hw : f = fld
  · subst hw
    rw [if_pos rfl]
    have q : List.lookup f [(f, v)] = some v := by simp [List.lookup]
    rw [q]
    exact r
  · rw [if_neg hw]
    have qw : (f == fld) = false := by simpa using hw
    have q2 : List.lookup f [(fld, v)] = none := by simp [List.lookup, qw]
    rw [q2]
    trivial
section
variable {X : Cx} {C fI : Addr} {nm fld msg : Str}
def tMkX (C : Addr) (fld : Str) (ta : TA) : L2.St → Hp → XK → Prop := fun σ H Q => ta σ H fun vs H1 => ∃ v, vs = [v] ∧ RpV v ∧ ∀ d, H1 d = none → Q (.ref C) (some d) (upd H1 d (.xd [(fld, v)]))
theorem pmk_x {a : Expr} {ta : TA} {p pos : Pos} {k : Nat} (T : PySem.XExc.ExTxt X.prog X.K X.mg nm fld msg C fI) (hr : Room (k + 1) X.A) (ha : PA X [a] ta) (hg : Gl X nm := by rfl) (hd : (nm == ("__debug__" : Str)) = false := by decide)
    (he : starEach (a :: []) X.env = (false, eval a X.env) :: starEach [] X.env := by rfl) (hpl : (backTo pos (starEach [] X.env)).any (·.1) = false := by rfl) :
    PMk X (.Call (.Name nm p) [a] [] pos) (tMkX C fld ta) := by
  intro pins s σ H Q I h
  refine wpAny_Call_Name_kw (ld_glob I hg T.gC ?_ hd)
  refine PySem.W.callWith_K (h₀ := X.base) I.ok.mod.kin T.kC (thn (ha.run pos pins s σ H _ I h) fun us s1 hh => ?_) he hpl
  obtain ⟨vs, H1, I1, r1, v, ev, rp, q1⟩ := hh
  subst ev
  refine ⟨I1.kIn, ?_⟩
  cases r1 with
  | cons rv rn =>
    rename_i v' us'
    cases rn
    show wpAny _ _ (call (.ref C) [v']) _ _ _
    have hlim := I1.nolimit
    have hG := I1.mod.glob.keeps I1.bk
    obtain ⟨mb, hB, hbb⟩ := I1.mod.blt
    have hB := hB.keeps I1.bk
    obtain ⟨hp, g, dr, tk, os⟩ := s1
    refine wpAny_call (PySem.XExc.exc_made T I1.kIn hlim hG hB hbb (by have := hr.dp; omega) (rp.rp rv) fun h' tk' e d M => ?_)
    show MkP X pins σ Q (.ref e) ⟨h', g, dr, tk', os⟩
    obtain ⟨oe, fv, hoe, hc, hd, hdat, h1⟩ := M.obj
    have hns := M.ns
    obtain ⟨G', g1, g2⟩ := restrict h' fun b => decide (b ≠ e)
    have gk : ∀ b, b ≠ e → G'.get? b = h'.get? b := fun b hb => g1 b (decide_eq_true hb)
    have ge : G'.get? e = none := g2 e (by simp)
    have old : ∀ b o, hp.get? b = some o → G'.get? b = some o := fun b o q => (gk b (Nat.ne_of_lt (Nat.lt_of_lt_of_le (Heap.lt_size q) M.new))).trans (M.keep b o q)
    have ob : ObjOk X.prog X.w (upd H1 d (.xd [(fld, v)])) G' d (.xd [(fld, v)]) :=
      ⟨_, hns.at (fun o q => (gk d M.dne).trans q), fun f => relO_one rv f⟩
    have J : Inv X pins σ (upd H1 d (.xd [(fld, v)])) ⟨G', g, dr, tk', os⟩ := I1.laid (t' := tk') old M.dbig ob
    refine ⟨e, oe, fv, ⟨G', g, dr, tk', os⟩, _, .ref C, some d, rfl, J, fun b o q => ?_, ge, hoe, ⟨hc, hd⟩, hdat, h1, ?_, rfl, I1.bare, raises_own T.exC T.tyC, q1 d (I1.hok.fresh M.dbig)⟩
    · by_cases hb : b = e
      · have q' : G'.get? b = some o := q
        rw [hb, ge] at q'; cases q'
      · exact (gk b hb).symm.trans q
    · rw [upd_ne (Ne.symm M.dne)]
      exact I1.hok.fresh M.new
def tRaiseX (C : Addr) (fld : Str) (W : WX) (ta : TA) : TS := fun _ σ H => tMkX C fld ta σ H fun cls d H' => W cls d σ H'
theorem ps_raiseX {a : Expr} {ta : TA} {W : WX} {p pos pos2 : Pos} {k : Nat} (hc : X.calm = true) (T : PySem.XExc.ExTxt X.prog X.K X.mg nm fld msg C fI) (hr : Room (k + 1) X.A) (tk : Takes X W) (ha : PA X [a] ta) (hg : Gl X nm := by rfl) (hd : (nm == ("__debug__" : Str)) = false := by decide)
    (he : starEach (a :: []) X.env = (false, eval a X.env) :: starEach [] X.env := by rfl) (hpl : (backTo pos (starEach [] X.env)).any (·.1) = false := by rfl) :
    PS X (.Raise (some (.Call (.Name nm p) [a] [] pos)) none pos2) (tRaiseX C fld W ta) := ps_raise hc tk (pmk_x T hr ha hg hd he hpl)
end
/-! ### isinstance(e, c), isinstance(e, (c, ..)) of a caught error -/
section
variable {X : Cx} {a : Addr} {oe : Obj} {cls : Value} {d : Option Addr} {pn : List (Addr × Obj)}
inductive ClsRs : List V → List Value → Prop where
  | nil : ClsRs [] []
  | cons {c : Addr} {cs : List V} {us : List Value} (h : ClsRs cs us) : ClsRs (.ref c :: cs) (.ref c :: us)
theorem ClsRs.eq : ∀ {cs : List V} {us : List Value}, ClsRs cs us → ∀ {ws : List Value}, Vals cs ws → ws = us
  | _, _, .nil, _, .nil => rfl
  | _, _, .cons h, _, .cons r rs => by
    cases r
    rw [h.eq rs]
def rIsX (K : PySem.W.Frag) (cls : Value) (d : Option Addr) (a : Addr) : List V → Hp → VK → Prop := fun xs H Q => ∃ (D dd : Addr) (fs : List (Str × V)) (b : Bool), cls = .ref D ∧ d = some dd ∧ H dd = some (.xd fs) ∧ ExcC K D ∧
  ((∃ (c : V) (cv : Value), xs = [.ref a, c] ∧ (∀ u, RelV c u → u = cv) ∧ PySem.W.kitOne K (.ref D) cv = some b) ∨ ∃ (p : Addr) (cs : List V) (us : List Value), xs = [.ref a, .ref p] ∧ H p = some (.tup cs) ∧ ClsRs cs us ∧ PySem.W.kitAny K (.ref D) us = some b) ∧ Q (.bl b) H
theorem call_isX (hz : Zc cls d oe) (hf : ∃ vs, oe.data = .fields vs) : CallR (X.suite a ((a, oe) :: pn)) (.builtin "isinstance") (rIsX X.K cls d a) := by
  intro pins s σ H xs us Q I r h
  obtain ⟨D, dd, fs, b, rfl, rfl, hd, C, hcs, q⟩ := h
  obtain ⟨hget, _⟩ := I.pin (a, oe) (List.mem_append.mpr (.inl List.mem_cons_self))
  obtain ⟨vs, hv⟩ := hf
  have hx : ObjOk X.prog X.w H s.heap dd (.xd fs) := I.hok dd _ hd
  obtain ⟨mA, hns, _⟩ := hx
  obtain ⟨od, ho, _⟩ := lookIn_ns hns
  have J : PySem.W.InstAt s.heap a oe D (some od) := ⟨hget, hz.1, by unfold PySem.W.notCls; rw [hv] <;> rfl, by rw [hz.2]; exact ho⟩
  have cl : (PySem.W.clsIn X.K D).isSome = true := by
    obtain ⟨cd, hc, _⟩ := PySem.W.any_some C.hd
    rw [hc]
    rfl
  have Z := PySem.W.kitx_exc (x := a) (ox := oe) (od := some od) cl C.hg C.hk C.hs C.ha C.hn C.ht C.hm
  rcases hcs with ⟨c, cv, rfl, hcv, e⟩ | ⟨p, cs, us2, rfl, hp, hc, e⟩
  · cases r with
    | cons rx rr =>
      cases rr with
      | cons rt rr =>
        cases rr
        cases rx
        have ec := hcv _ rt
        subst ec
        exact PySem.W.kia_one Z I.kIn J e (fun z => nomatch z) fun tk => ⟨.bl b, H, I.kept (t' := tk) fun _ _ z => z, rfl, q⟩
  · cases r with
    | cons rx rr =>
      cases rr with
      | cons rt rr =>
        cases rr
        cases rx
        cases rt
        obtain ⟨_, its, rv, o, h1, h2, n, h3⟩ := (show ObjOk X.prog X.w H s.heap p (.tup cs) from I.hok p _ hp)
        have ei := hc.eq rv
        subst ei
        obtain ⟨oc, od', oda, osl⟩ := o
        dsimp only at h2 h3
        subst h2 h3
        exact PySem.W.kia_tup Z I.kIn J h1 e (fun z => nomatch z) fun tk => ⟨.bl b, H, I.kept (t' := tk) fun _ _ z => z, rfl, q⟩
end
/-! ### own [ ] and [ ] = within a try -/
section
variable {X : Cx} {CX : CXT} {C f : Addr} {fd : FuncData} {ps : List Str} {sp : Sp} {E : L2.St → XK} {n : Nat} {o i e : Expr} {to ti te : TE} {pos pos' : Pos}
def tIxOS (C : Addr) (sp : Sp) (E : L2.St → XK) (to ti : TE) : TE := fun σ H Q => to σ H fun x H1 => ti σ H1 fun y H2 => ∃ a dx fs, x = .ref a ∧ H2 a = some (.ins C dx fs) ∧ sp [.ref a, y] H2 Q (E σ)
theorem pe_ixOS (ho : PE X o to) (hi : PE X i ti) (F : FnOk X.prog X.w X.K X.mg X.base CX n f fd ps sp) (hs : PySem.W.findIn X.K (.ref C) "__getitem__" = some (some (.ref f))) (hf : PySem.W.fnIn X.K f = true) (hfn : PySem.W.isFn X.K (.ref f) = true)
    (hb : Binds X.K fd ps []) (hx : ∀ σ, PassesAt CX X σ (E σ)) (hr : Room (n + 1) X.A) (hsl : ∀ x v, subscripted i true (.ref x) v = runValue (.builtin "lifetime.subscript" ⟨[.ref x, v], []⟩) := by intro _ _; with_unfolding_all rfl) :
    PE X (.Subscript o i pos) (tIxOS C sp E to ti) := by
  refine ⟨fun pins s σ H Q I h => ?_⟩
  refine Subscript_ (thn (ho.run pins s σ H _ I h) fun v s1 ⟨x, H1, I1, r1, q1⟩ => thn (hi.run pins s1 σ H1 _ I1 q1) fun u s2 ⟨y, H2, I2, r2, q2⟩ => ?_)
  obtain ⟨a, dx, fs, rfl, ha, hsp⟩ := q2
  cases r1
  obtain ⟨mA, J, _⟩ := ins_get I2.hok ha
  obtain ⟨od, J, _⟩ := J.look
  obtain ⟨m, hF⟩ := I2.fr
  refine PySem.W.sub_K hF I2.ok.mod.kin J hs hf hfn ?_ (hsl _ _)
  have hl : ([Value.ref a, u] ++ []).length = ps.length := F.len _ _ _ _ hsp
  refine wpAny_call (codeAny_mono (F.run X.A.in1 X.stack s2 H2 ⟨[.ref a, u], []⟩ [.ref a, u] [.ref a, y] Q (E σ) hr.in1 I2.env0.in1 (hb s2 [.ref a, u] I2.kIn hl) (.cons rfl (.cons r2 .nil)) hsp) fun r s' hq => ?_)
  cases r with
  | error e => exact hx σ pins H2 s2 e s' I2 hq
  | ok fl =>
    cases fl with
    | ret u => exact I2.after hq
    | next => exact False.elim hq
    | brk => exact False.elim hq
    | cont => exact False.elim hq
def gSubS (C : Addr) (sp : Sp) (E : L2.St → XK) (to ti : TE) : TG := fun v σ H Q => to σ H fun x H1 => ti σ H1 fun y H2 => ∃ a dx fs, x = .ref a ∧ H2 a = some (.ins C dx fs) ∧ sp [.ref a, y, v] H2 (fun _ H' => Q σ H') (E σ)
theorem pg_subOS (ho : PE X o to) (hi : PE X i ti) (F : FnOk X.prog X.w X.K X.mg X.base CX n f fd ps sp) (hq : PySem.W.noSeq X.K C = true) (hs : PySem.W.findIn X.K (.ref C) "__setitem__" = some (some (.ref f))) (hfn : PySem.W.isFn X.K (.ref f) = true)
    (hb : Binds X.K fd ps []) (hx : ∀ σ, PassesAt CX X σ (E σ)) (hr : Room n X.A)
    (ha : ∀ v, assign (.Subscript o i pos) X.env v = (do
      let ov ← holding [v] (eval o X.env)
      let iv ← holding [v, ov] (eval i X.env)
      standAt pos
      holding [v, ov, iv] (setItem ov iv v)
      release [v, ov, iv] []) := by intro _; rfl) : PG X (.Subscript o i pos) (gSubS C sp E to ti) := by
  refine ⟨fun pins s σ H v u Q I r h => ?_⟩
  rw [ha]
  refine wpAny_bind (wpAny_holding (thn (ho.run pins s σ H _ I h) fun ov s1 ⟨x, H1, I1, r1, q1⟩ => ?_))
  refine wpAny_bind (wpAny_holding (thn (hi.run pins s1 σ H1 _ I1 q1) fun iv s2 ⟨y, H2, I2, r2, q2⟩ => ?_))
  obtain ⟨a, dx, fs, rfl, ha2, hsp⟩ := q2
  cases r1
  obtain ⟨mA, J, _⟩ := ins_get I2.hok ha2
  obtain ⟨od, J, _⟩ := J.look
  obtain ⟨m, hF⟩ := I2.fr
  refine wpAny_bind (wpAny_standAt (wpAny_bind (wpAny_holding (PySem.W.ksp_setItem hF I2.ok.mod.kin J hq hs hfn ?_))))
  refine wpAny_mono (run_fnS (us := [.ref a, iv, u]) (vs := [.ref a, y, v]) (E := E) F hr hb (hx σ) I2 (.cons rfl (.cons r2 (.cons r .nil))) hsp) (fun r s' q => ?_) fun _ _ e => e
  obtain ⟨z, H', I', rz, q⟩ := q
  exact wpAny_release ⟨σ, H', I', q⟩
end
end XL
set_option Elab.async false
set_option linter.all false
set_option maxRecDepth 100000
set_option maxHeartbeats 4000000
/-! XOwnIt: list(o), o an object whose own __iter__ hands on iter(t), t a tuple. -/
namespace XL
open PySem PySem.Spec PyProof.Rows L2
/-- an iterator over the tuple at t, the next place is i -/
def ItT (t it : Addr) (i : Nat) : HO := .ext fun h => IsTupIter h it t i
/-- .. that has ended -/
def ItTE (it : Addr) : HO := .ext fun h => ∃ o, h.get? it = some o
theorem itT_ok {P : Program} {w : World} {H : Hp} {h : Heap} {t it : Addr} {i : Nat} (e : IsTupIter h it t i) : ObjOk P w H h it (ItT t it i) := by
  obtain ⟨o, h1, h2⟩ := e
  exact ⟨⟨o, h1, h2⟩, ⟨_, h1⟩, fun g1 g2 ⟨o', q1, q2⟩ k => ⟨o', k _ q1, q2⟩⟩
theorem itTE_ok {P : Program} {w : World} {H : Hp} {h : Heap} {it : Addr} {o : Obj} (e : h.get? it = some o) : ObjOk P w H h it (ItTE it) := ⟨⟨o, e⟩, ⟨_, e⟩, fun g1 g2 ⟨o', q1⟩ k => ⟨o', k _ q1⟩⟩
section
variable {X : Cx} {pins : List (Addr × Obj)} {σ : L2.St} {H : Hp} {s : Shared}
theorem itT_get {t it : Addr} {i : Nat} (I : Inv X pins σ H s) (e : H it = some (ItT t it i)) : IsTupIter s.heap it t i := (I.hok it _ e).1
theorem call_iter_tup {M : Program} {w : World} {A : Around} {E : Value → Shared → Prop} {s : Shared} {t : Addr} {items : Array Value} {Q : Value → Shared → Prop} (ht : IsTup s.heap t items)
    (h : Q (.ref s.heap.objs.size) { s with heap := s.heap.push { cls := .type "tuple_iterator", data := .fields #[.ref t, .int 0 0] } }) : wpAny (model M w) A (call (.builtin "iter") [.ref t]) Q E s := by
  refine Calls.call_function_entry (by decide +kernel) (by decide +kernel) PySem.W.kdk_entry_iter (PySem.W.kdk_args_iter _) ?_
  unfold Builtin.«iter»
  refine wpAny_bind (m := someArgs "iter" 1 2 _) (wpAny_of_eq (a := [Value.ref t]) (by first | rfl | kernel_rfl!) ?_)
  show wpAny _ _ (pyIter (.ref t) >>= _) _ _ _
  refine wpAny_bind (iter_tuple ht ?_)
  exact wpAny_pure ⟨_, rfl, h⟩
/-- iter(t) -/
def rIterT (K : PySem.W.Frag) : List V → Hp → VK → Prop := fun xs H Q => ∃ (t : Addr) (zs : List V), xs = [.ref t] ∧ SqT K H t zs ∧ ∀ it, H it = none → Q (.ref it) (upd H it (ItT t it 0))
theorem call_iterT : CallR X (.builtin "iter") (rIterT X.K) := by
  intro pins s σ H xs us Q I r h
  obtain ⟨t, zs, rfl, hq, q⟩ := h
  obtain rfl := Vals.ref1 r
  obtain ⟨its, rv, pl, hz⟩ := I.tuple hq
  refine call_iter_tup pl ?_
  exact ⟨.ref s.heap.objs.size, _, I.laid (t' := s.toks) (fun b u e => Heap.get?_push_of_some _ e) (Nat.le_refl _) (itT_ok ⟨_, Heap.get?_push_size _ rfl, rfl, rfl⟩), rfl, q _ (I.hok.fresh (Nat.le_refl _))⟩
theorem call_iterTK (K : PySem.W.Frag) (h : X.K = K := by rfl) : CallR X (.builtin "iter") (rIterT K) := h ▸ call_iterT
theorem sqT_upd {K : PySem.W.Frag} {H : Hp} {t x : Addr} {zs : List V} {o : HO} (h : SqT K H t zs) (hx : ∀ o' xs, H x ≠ some (.tup xs) ∧ H x ≠ some (.frz o' (.tup xs))) : SqT K (upd H x o) t zs := by
  rcases h with (h | ⟨ob, h⟩) | h
  · have ne : t ≠ x := fun z => (hx default zs).1 (by rw [← z]; exact h)
    exact .inl (.inl (by rw [upd_ne ne]; exact h))
  · have ne : t ≠ x := fun z => (hx ob zs).2 (by rw [← z]; exact h)
    exact .inl (.inr ⟨ob, by rw [upd_ne ne]; exact h⟩)
  · exact .inr h
/-- the end of a tuple: the iterator itself stays there -/
theorem next_tup_end {P : Program} {w : World} {A : Around} {E : Value → Shared → Prop} {s : Shared} {it t : Addr} {i : Nat} {items : Array Value} {Q : Option Value → Shared → Prop} (hh : A.handled = none)
    (hit : IsTupIter s.heap it t i) (ht : IsTup s.heap t items) (hx : items[i]? = none)
    (hQ : ∀ h', Heap.ExtBut it s.heap h' → (∃ o, h'.get? it = some o) → Q none { s with heap := h' }) : wpAny (model P w) A (pyNext (.ref it)) Q E s := by
  obtain ⟨o, ho, hc, hd⟩ := id hit
  obtain ⟨ol, hol, _, nl, hdl⟩ := ht
  unfold pyNext
  refine wpAny_bind (wpAny_attempt (wpAny_callSpecial?_slot (name := Str.ofString "__next__") hit.typeIs slot_tupleiter_next (wpAny_call_entry slot_tupleiter_next hit.typeIs entry_tupleiter_next ?_ (args_tupleiter_next _))))
  show wpAny _ _ (field (.ref it) 0 >>= _) _ _ s
  refine wpAny_bind (wpAny_field ho hd (x := .ref t) rfl (PySem.W.KFB.if_not rfl ?_))
  show wpAny _ _ (field (.ref it) 1 >>= _) _ _ s
  refine wpAny_bind (wpAny_field ho hd (x := .int i 0) rfl ?_)
  show wpAny _ _ (seqItems? (.ref t) >>= _) _ _ s
  refine wpAny_bind (wpAny_seqItems hol hdl ?_)
  simp only [Int.toNat_natCast, hx]
  refine wpAny_bind (wpAny_rule (wpAny_bind (wpAny_setField ho hd (by simp) ?_)))
  show wpAny _ _ (newExc (.type "StopIteration") [] >>= _) _ _ _
  refine wpAny_bind ?_
  simp only [newExc, newTuple]
  refine wpAny_bind (wpAny_newObj_type ?_ (by size_fits))
  refine wpAny_bind (m := firstArgMember _ _) (wpAny_of_eq (a := Value.none) (by first | rfl | (simp only [firstArgMember]; rfl)) ?_)
  refine wpAny_newObj_type ?_ (by size_fits)
  simp only [raiseNew]
  refine wpAny_bind (wpAny_handled ?_)
  first | rw [show A.in1.handled = none from hh] | rw [hh]
  refine wpAny_bind (wpAny_pure (wpAny_throw ?_))
  refine wpAny_bind (wpAny_isInstance (T := "StopIteration") (b := true) ⟨_, Heap.get?_push_size _ rfl, rfl⟩ isSubtype_stop ?_)
  exact wpAny_pure (hQ _ (((Heap.SameBut.update ..).extBut.push _).push _) ⟨_, Heap.get?_push_of_some _ (Heap.get?_push_of_some _ (Heap.get?_update_self _ ho (Obj.isFreed_of_fields (Obj.data_mapFields hd _))))⟩)
/-- the loop that fills the list at q -/
theorem loop_tup {A1 : Around} {Rs : Result → Shared → Prop} {q it t : Addr} {zs : List V} (hd : A1.in1.handled = none) (hne : q ≠ it) :
    ∀ (k i : Nat) (H : Hp) (s : Shared), zs.length - i = k → i ≤ zs.length → Inv X pins σ H s → H it = some (ItT t it i) → SqT X.K H t zs → H q = some (.lst (zs.take i)) →
      (∀ s', Inv X pins σ (upd (upd H it (ItTE it)) q (.lst zs)) s' → Rs (.ok (.ret .none)) s') → codeAny (model X.prog X.w) A1 (.builtin "list.extend.loop" ⟨[.ref q, .ref it, .none], []⟩) Rs s := by
  intro k
  induction k with
  | zero =>
    intro i H s hk hi I hit ht hq hR
    obtain ⟨its, rv, pl, hz⟩ := I.tuple ht
    have hin : zs.length = its.length := rv.length
    have mu : Mut (H it) := by rw [hit]; exact True.intro
    refine codeAny_builtin PySem.F.entry_extend_loop ?_
    rw [Around.under_plainId PySem.F.plain_extend_loop _]
    show wpAny _ A1.in1 (pyNext (.ref it) >>= _) _ _ s
    have ei : i = zs.length := by omega
    refine wpAny_bind (next_tup_end hd (itT_get I hit) pl (by rw [List.getElem?_toArray]; exact List.getElem?_eq_none (by omega)) fun h' eb ⟨o, ho⟩ => wpAny_pure ?_)
    have I2 : Inv X pins σ (upd H it (ItTE it)) { s with heap := h' } := I.write (x := it) (e := it) (t' := s.toks) mu (.inl rfl) (fun b o nb z => eb b o nb z) ⟨_, ho⟩ (itTE_ok ho)
    refine hR _ ?_
    have e : upd (upd H it (ItTE it)) q (.lst zs) = upd H it (ItTE it) := by
      funext b
      by_cases hb : b = q
      · rw [hb, upd_same, upd_ne hne, hq, ei, List.take_length]
      · rw [upd_ne hb]
    rw [e]
    exact I2
  | succ k ih =>
    intro i H s hk hi I hit ht hq hR
    obtain ⟨its, rv, pl, hz⟩ := I.tuple ht
    have hin : zs.length = its.length := rv.length
    have mu : Mut (H it) := by rw [hit]; exact True.intro
    have hlt : i < zs.length := by omega
    have hzi := List.getElem?_eq_getElem hlt
    obtain ⟨u, hu, ru⟩ := rv.get hzi
    refine codeAny_builtin PySem.F.entry_extend_loop ?_
    rw [Around.under_plainId PySem.F.plain_extend_loop _]
    show wpAny _ A1.in1 (pyNext (.ref it) >>= _) _ _ s
    refine wpAny_bind (next_tuple_item (itT_get I hit) pl (by rw [List.getElem?_toArray]; exact hu) fun h' hit' sb => ?_)
    obtain ⟨o, ho, _⟩ := id hit'
    have I2 : Inv X pins σ (upd H it (ItT t it (i + 1))) { s with heap := h' } := I.write (x := it) (e := it) (t' := s.toks) mu (.inl rfl) (fun b o nb z => (sb.2 b nb).trans z) ⟨_, ho⟩ (itT_ok hit')
    have hq2 : upd H it (ItT t it (i + 1)) q = some (.lst (zs.take i)) := by rw [upd_ne hne]; exact hq
    show wpAny _ A1.in1 (updateSeq q (·.push u) >>= _) _ _ _
    obtain ⟨z, its2, c, r2, hl, e⟩ := I2.lstM hq2
    have l2 : its2.length ≤ 16777215 := by
      rw [← hl, List.length_take]
      have := hz
      rw [sizeLine_eq] at this
      omega
    refine wpAny_bind (wpAny_updateSeq e rfl (wpAny_pure ⟨plainId_quiet PySem.F.plain_extend_loop _, ?_⟩) (by rw [List.size_toArray, sizeLine_eq]; omega) (by show (its2.toArray.push u).size ≤ sizeLine + 1; rw [Array.size_push, List.size_toArray, sizeLine_eq]; omega))
    have I3 := I2.lset (f := (·.push u)) (its' := its2 ++ [u]) (ys := zs.take i ++ [zs[i]]) (t' := s.toks) hq2 e (by simp) (r2.append (.cons ru .nil)) (by rw [List.length_append, List.length_singleton, List.length_take, sizeLine_eq]; rw [sizeLine_eq] at hz; omega)
    refine ih (i + 1) _ _ (by omega) (by omega) I3 ?_ ?_ ?_ fun s' I4 => hR s' ?_
    · rw [upd_ne (Ne.symm hne), upd_same]
    · exact sqT_upd (sqT_upd ht fun o' xs => ⟨by rw [hit]; exact fun z => (nomatch z), by rw [hit]; exact fun z => (nomatch z)⟩) fun o' xs => ⟨by rw [hq2]; exact fun z => (nomatch z), by rw [hq2]; exact fun z => (nomatch z)⟩
    · rw [upd_same, take_snoc hzi]
    · have e4 : upd (upd (upd (upd H it (ItT t it (i + 1))) q (.lst (zs.take i ++ [zs[i]]))) it (ItTE it)) q (.lst zs) = upd (upd H it (ItTE it)) q (.lst zs) := by
        funext b
        by_cases hb : b = q
        · rw [hb, upd_same, upd_same]
        · rw [upd_ne hb, upd_ne hb]
          by_cases hb2 : b = it
          · rw [hb2, upd_same, upd_same]
          · rw [upd_ne hb2, upd_ne hb2, upd_ne hb, upd_ne hb2]
      rw [← e4]
      exact I4
/-- list(o) -/
def rListIt (K : PySem.W.Frag) (C : Addr) (sp : Sp) (E : XK) : List V → Hp → VK → Prop := fun xs H Q => ∃ a dx fs, xs = [.ref a] ∧ H a = some (.ins C dx fs) ∧
  ∀ q, H q = none → sp [.ref a] (upd H q (.lst [])) (fun v H1 => ∃ (it t : Addr) (zs : List V), v = .ref it ∧ H1 it = some (ItT t it 0) ∧ SqT K H1 t zs ∧ H1 q = some (.lst []) ∧ (∃ dx' fs', H1 a = some (.ins C dx' fs')) ∧ Q (.ref q) (upd (upd H1 it (ItTE it)) q (.lst zs))) E
theorem hint_own {M : Model} {A : Around} {E : Value → Shared → Prop} {s : Shared} {Q : Bool → Shared → Prop} {K : PySem.W.Frag} {C a : Addr} {ox : Obj} {od : Option Obj} (h1 : PySem.W.findIn K (.ref C) "__len__" = some none) (h2 : PySem.W.findIn K (.ref C) "__length_hint__" = some none)
    (hK : K.In s.heap) (J : PySem.W.InstAt s.heap a ox C od) (h : Q true s) : wpAny M A (Builtin.List.listLengthHint (.ref a)) Q E s := by
  unfold Builtin.List.listLengthHint
  refine wpAny_bind (wpAny_bind (J.type.here ((PySem.W.looks_findIn hK h1).here (PySem.W.KFB.if_not rfl (PySem.W.KFB.if_not rfl ?_)))))
  exact wpAny_bind (wpAny_bind (J.type.here ((PySem.W.looks_findIn hK h2).here (wpAny_pure h))))
theorem call_listIt {C f : Addr} {fd : FuncData} {ps : List Str} {sp : Sp} {E : XK} {n : Nat} {CX : CXT} (hs : PySem.W.findIn X.K (.ref C) "__iter__" = some (some (.ref f))) (hfn : PySem.W.isFn X.K (.ref f) = true) (n1 : PySem.W.findIn X.K (.ref C) "__len__" = some none) (n2 : PySem.W.findIn X.K (.ref C) "__length_hint__" = some none)
    (F : FnOk X.prog X.w X.K X.mg X.base CX n f fd ps sp) (hb : Binds X.K fd ps []) (hx : Passes CX X E) (hr : Room (n + 2) X.A) : CallR X (.type "list") (rListIt X.K C sp E) := by
  intro pins s σ H xs us Q I rv h
  obtain ⟨a, dx, fs, rfl, ha, hq⟩ := h
  obtain ⟨u, rfl, ru⟩ := rv.one
  cases ru
  have sb : Sub X n X.A.in1.in1 := (Sub.in1 (Sub.in1 (⟨hr, rfl⟩ : Sub X (n + 2) X.A)))
  refine callType_codes (Q₁ := fun obj s₁ => obj = .ref s.heap.objs.size ∧ s₁ = { s with heap := s.heap.push { cls := .type "list", data := .seq #[] } }) PySem.F.called_list (PySem.F.typeCall_list_1 _) PySem.F.entry_list_init
    (code_list_new _ ⟨rfl, rfl⟩) fun obj s₁ h₁ => ?_
  obtain ⟨rfl, rfl⟩ := h₁
  have hS : (s.heap.push { cls := .type "list", data := .seq #[] }).get? s.heap.objs.size = some { cls := .type "list", data := .seq #[] } := Heap.get?_push_size _ rfl
  refine ⟨⟨_, hS, rfl⟩, PySem.F.args_list_init_2 _ _, ?_⟩
  have fr : H s.heap.objs.size = none := I.hok.fresh (Nat.le_refl _)
  have hsp := hq _ fr
  have I1 : Inv X pins σ (upd H s.heap.objs.size (.lst [])) { s with heap := s.heap.push { cls := .type "list", data := .seq #[] } } := I.lnew (its := []) (t' := s.toks) .nil (Nat.zero_le _)
  show wpAny _ _ (do let old ← Builtin.List.listItems (.ref s.heap.objs.size); Builtin.List.listUpdate (.ref s.heap.objs.size) (fun _ => #[]); letGo old.toList.reverse; Builtin.List.listExtendWith (.ref s.heap.objs.size) (.ref a) .none) _ _ _
  refine wpAny_bind ?_
  unfold Builtin.List.listItems
  refine wpAny_bind (wpAny_seqItems hS rfl (wpAny_pure ?_))
  show wpAny _ _ (updateSeq s.heap.objs.size (fun _ => #[]) >>= fun _ => letGo (#[] : Array Value).toList.reverse >>= fun _ => Builtin.List.listExtendWith (.ref s.heap.objs.size) (.ref a) .none) _ _ _
  refine wpAny_bind (wpAny_updateSeq hS rfl ?_)
  have I2 := I1.lset (f := fun _ => #[]) (its := []) (its' := []) (ys := []) (t' := s.toks) upd_same hS rfl .nil (Nat.zero_le _)
  rw [upd_upd] at I2
  refine wpAny_bind (wpAny_letGo ?_)
  have ha2 : upd H s.heap.objs.size (.lst []) a = some (.ins C dx fs) := by rw [upd_ne (ne_of_none ha fr)]; exact ha
  have hne : s.heap.objs.size ≠ a := Ne.symm (ne_of_none ha fr)
  generalize hH2 : upd H s.heap.objs.size (.lst []) = H2 at *
  generalize s.heap.objs.size = q at *
  obtain ⟨mA, J, _⟩ := ins_get I2.hok ha2
  obtain ⟨od, J, _⟩ := J.look
  obtain ⟨m0, hF⟩ := I2.fr
  unfold Builtin.List.listExtendWith
  refine wpAny_bind (J.type.here ?_)
  have h1 : Builtin.List.listSameRef (.ref q) (.ref a) = false := by simp [Builtin.List.listSameRef, hne]
  have h2 : (Value.ref C == Value.type "list") = false := rfl
  have h3 : (Value.ref C == Value.type "tuple") = false := rfl
  simp only [h1, h2, h3, Bool.or_false, Bool.false_eq_true, if_false]
  refine wpAny_bind (PySem.W.owit_iter hF I2.ok.mod.kin J hs hfn ?_)
  have e0 : ∀ {s : Shared} {H : Hp}, Inv X pins σ H s → Env0 X.prog X.w X.K X.mg X.base X.A.in1.in1 X.stack s H := fun {s H} I => by
    have e := I.env0
    exact ⟨by rw [sb.fr]; exact e.frames, e.mod, e.bs, e.bsz, e.funs, e.frf, e.hok, e.bare⟩
  have hl := F.len _ _ _ _ hsp
  have r2 : Vals [V.ref a] [Value.ref a] := .cons rfl .nil
  refine wpAny_call (codeAny_mono (F.run X.A.in1.in1 X.stack _ _ ⟨[.ref a], []⟩ [.ref a] [.ref a] _ E sb.room (e0 I2) (by
    have := hb _ [.ref a] I2.kIn (by simpa using hl)
    simpa using this) r2 hsp) fun r s' hq' => ?_)
  cases r with
  | error e => exact hx pins σ _ _ e s' I2 hq'
  | ok fl =>
    cases fl with
    | next => exact False.elim hq'
    | brk => exact False.elim hq'
    | cont => exact False.elim hq'
    | ret u =>
      obtain ⟨v, H', I', rv, it, t, zs, ev, hit, ht, hqq, ⟨dx', fs', ha'⟩, hQ⟩ := I2.after hq'
      subst ev
      cases rv
      have hT : s'.TypeIs (.ref it) "tuple_iterator" := (itT_get I' hit).typeIs
      have hqi : q ≠ it := fun z => by
        rw [z, hit] at hqq
        exact (nomatch hqq)
      show wpAny _ _ (specialOf (.ref it) "__next__") _ _ _
      refine wpAny_specialOf hT slot_tupleiter_next.lookup ?_
      obtain ⟨mA', J', _⟩ := ins_get I'.hok ha'
      obtain ⟨od', J', _⟩ := J'.look
      refine wpAny_bind (wpAny_holding (hint_own n1 n2 I'.kIn J' ?_))
      have go : ∀ s'', Inv X pins σ H' s'' → codeAny (model X.prog X.w) X.A.in1 (.builtin "list.extend.loop" ⟨[.ref q, .ref it, .none], []⟩) (wants (fun r s₂ => r = .none ∧ EP X pins σ Q (.ref q) s₂) X.xe) s'' := fun s'' I'' =>
        loop_tup (t := t) (zs := zs) sb.room.hd hqi zs.length 0 H' s'' (by simp) (Nat.zero_le _) I'' hit ht (by rw [hqq]; rfl) fun s3 I3 => ⟨rfl, .ref q, _, I3, rfl, hQ⟩
      obtain ⟨z, its, k, r3, hl3, e3⟩ := I'.lstM hqq
      cases r3
      refine wpAny_ite_split (fun _ => ?_) (fun _ => wpAny_pure ⟨plainId_quiet PySem.F.plain_extend_loop _, go s' I'⟩)
      refine wpAny_bind (wpAny_rule ?_)
      refine wpAny_bind ?_
      show wpAny _ _ (updateSeq q (·.push .none) >>= fun _ => updateSeq q (·.pop)) _ _ _
      refine wpAny_bind (wpAny_updateSeq e3 rfl ?_)
      have I3 := I'.lset (f := (·.push Value.none)) (its' := [Value.none]) (ys := [.non]) (t' := s'.toks) hqq e3 (by simp) (.cons rfl .nil) (by rw [List.length_singleton, sizeLine_eq]; decide)
      obtain ⟨z4, its4, k4, r4, hl4, e4⟩ := I3.lstM upd_same
      obtain ⟨u4, rfl, ru4⟩ := r4.one
      refine wpAny_updateSeq e4 rfl ?_ (by show 1 ≤ sizeLine; rw [sizeLine_eq]; decide) (by show 0 ≤ sizeLine + 1; exact Nat.zero_le _)
      have I4 := I3.lset (f := (·.pop)) (its := [u4]) (its' := []) (ys := []) (t' := s'.toks) upd_same e4 (by rfl) .nil (Nat.zero_le _)
      rw [upd_upd] at I4
      have hH : upd H' q (.lst []) = H' := by
        funext b
        by_cases hb : b = q
        · rw [hb, upd_same, hqq]
        · rw [upd_ne hb]
      rw [hH] at I4
      exact wpAny_pure ⟨plainId_quiet PySem.F.plain_extend_loop _, go _ I4⟩
end
end XL
set_option Elab.async false
set_option linter.all false
set_option maxRecDepth 100000
set_option maxHeartbeats 4000000
/-! XOr: two rules for one piece of text; what classes say of an own error. -/
namespace XL
open PySem PySem.Spec PyProof.Rows L2
section
variable {X : Cx}
theorem pe_or {e : Expr} {t u : TE} (h : PE X e t) (k : PE X e u) : PE X e (fun σ H Q => t σ H Q ∨ u σ H Q) := ⟨fun pins s σ H Q I q => q.elim (h.run pins s σ H Q I) (k.run pins s σ H Q I)⟩
theorem pg_or {e : Expr} {t u : TG} (h : PG X e t) (k : PG X e u) : PG X e (fun v σ H Q => t v σ H Q ∨ u v σ H Q) := ⟨fun pins s σ H v w Q I r q => q.elim (h.run pins s σ H v w Q I r) (k.run pins s σ H v w Q I r)⟩
theorem cr_or {f : Value} {t u : List V → Hp → VK → Prop} (h : CallR X f t) (k : CallR X f u) : CallR X f (fun xs H Q => t xs H Q ∨ u xs H Q) := fun pins s σ H xs us Q I r q => q.elim (h pins s σ H xs us Q I r) (k pins s σ H xs us Q I r)
end
section
variable {P : Program} {w : World} {K : PySem.W.Frag} {mg : Str → Option Value} {base : Heap} {CX : CXT} {k : Nat} {f : Addr} {fd : FuncData} {ps : List Str} {sp sq : Sp}
theorem fn_or (h : FnOk P w K mg base CX k f fd ps sp) (h2 : FnOk P w K mg base CX k f fd ps sq) : FnOk P w K mg base CX k f fd ps (fun vs H Q E => sp vs H Q E ∨ sq vs H Q E) :=
  ⟨fun vs H Q E q => q.elim (h.len vs H Q E) (h2.len vs H Q E), fun A outer s H args us vs Q E hr he hb hv q => q.elim (h.run A outer s H args us vs Q E hr he hb hv) (h2.run A outer s H args us vs Q E hr he hb hv)⟩
end
theorem kit_of {K : PySem.W.Frag} {D C : Addr} {b : Bool} (hne : (Value.ref D == Value.ref C) = false) (h2 : PySem.W.isClsIn K C = true) (h3 : PySem.W.typeIn K (.ref C) = some (.type "type")) (h4 : PySem.W.subIn K (.ref D) (.ref C) = some b) : PySem.W.kitOne K (.ref D) (.ref C) = some b := by
  have e2 : ((PySem.W.clsIn K C).isSome && PySem.W.typeIn K (.ref C) == some (.type "type")) = true := by
    have h2' : (PySem.W.clsIn K C).isSome = true := h2
    rw [h2', h3]
    rfl
  show (if (Value.ref D == Value.ref C) = true then some true else (if ((PySem.W.clsIn K C).isSome && PySem.W.typeIn K (.ref C) == some (.type "type")) = true then PySem.W.subIn K (.ref D) (.ref C) else none)) = some b
  rw [if_neg (by rw [hne]; decide), if_pos e2]
  exact h4
theorem exm_of {K : PySem.W.Frag} {S : Addr} {cls : Value} {b : Bool} (h1 : PySem.W.subIn K (.ref S) (.type "BaseException") = some true) (h2 : PySem.W.isClsIn K S = true) (h3 : PySem.W.typeIn K (.ref S) = some (.type "type")) (h4 : PySem.W.subIn K cls (.ref S) = some b) : PySem.W.exmOne K cls (.ref S) = some b := by
  have e1 : (PySem.W.subIn K (.ref S) (.type "BaseException") == some true) = true := by rw [h1] <;> rfl
  have e2 : ((PySem.W.clsIn K S).isSome && PySem.W.typeIn K (.ref S) == some (.type "type")) = true := by
    have h2' : (PySem.W.clsIn K S).isSome = true := h2
    rw [h2', h3] <;> rfl
  show (if (PySem.W.subIn K (.ref S) (.type "BaseException") == some true) = true then (if ((PySem.W.clsIn K S).isSome && PySem.W.typeIn K (.ref S) == some (.type "type")) = true then PySem.W.subIn K cls (.ref S) else none) else none) = some b
  rw [if_pos e1, if_pos e2]
  exact h4
end XL
set_option Elab.async false
set_option linter.all false
set_option maxRecDepth 100000
set_option maxHeartbeats 4000000
/-! XTxt: texts of small letters; a name that is not used. -/
namespace XL
open PySem PySem.Spec PyProof.Rows L2
def LS : Str := "abcdefghijklmnopqrstuvwxyz"
structure Lt (a b : Nat) (z : Str) : Prop where
  lo : a ≤ z.length
  hi : z.length ≤ b
  ch : ∀ c ∈ z.cps.toList, c ∈ LS.cps.toList
theorem len_tl (z : Str) : z.length = z.cps.toList.length := by
  show z.cps.size = _
  rw [Array.length_toList]
theorem Lt.one {c : Nat} (h : c ∈ LS.cps.toList) : Lt 1 1 ⟨#[c]⟩ := ⟨Nat.le_refl _, Nat.le_refl _, fun d hd => by
  have : d = c := by simpa using hd
  rw [this]
  exact h⟩
theorem Lt.wide {a b a' b' : Nat} {z : Str} (h : Lt a b z) (h1 : a' ≤ a) (h2 : b ≤ b') : Lt a' b' z := ⟨Nat.le_trans h1 h.lo, Nat.le_trans h.hi h2, h.ch⟩
theorem app_len (x y : Str) : (x ++ y).length = x.length + y.length := Str.length_append x y
theorem app_tl (x y : Str) : (x ++ y).cps.toList = x.cps.toList ++ y.cps.toList := by
  rw [Str.cps_append]
  simp
theorem Lt.app {a b c d : Nat} {x y : Str} (h : Lt a b x) (k : Lt c d y) : Lt (a + c) (b + d) (x ++ y) := by
  have h1 := h.lo; have h2 := h.hi; have h3 := k.lo; have h4 := k.hi
  refine ⟨by rw [app_len]; omega, by rw [app_len]; omega, fun e he => ?_⟩
  rw [app_tl] at he
  rcases List.mem_append.mp he with z | z
  · exact h.ch e z
  · exact k.ch e z
theorem cut_mem {z : Str} {lo hi : Option Int} {c : Nat} (h : c ∈ (cutS z lo hi).cps.toList) : c ∈ z.cps.toList := by
  have h2 : c ∈ (z.cps.toList.drop (HT.sIx z.length 0 lo)).take (HT.sIx z.length z.length hi - HT.sIx z.length 0 lo) := by simpa [cutS] using h
  exact List.mem_of_mem_drop (List.mem_of_mem_take h2)
theorem cut_to_len (z : Str) (k : Nat) : (cutS z none (some (k : Int))).length = min k z.length := by
  rw [len_tl]
  show ((z.cps.toList.drop (HT.sIx z.length 0 none)).take (HT.sIx z.length z.length (some (k : Int)) - HT.sIx z.length 0 none)).toArray.toList.length = _
  rw [HT.sIx_nat, HT.sIx_none]
  rw [Nat.sub_zero, List.drop_zero, List.length_take, ← len_tl]
  omega
theorem cut_from_len (z : Str) (k : Nat) (h : k ≤ z.length) : (cutS z (some (k : Int)) none).length = z.length - k := by
  rw [len_tl]
  show ((z.cps.toList.drop (HT.sIx z.length 0 (some (k : Int)))).take (HT.sIx z.length z.length none - HT.sIx z.length 0 (some (k : Int)))).toArray.toList.length = _
  rw [HT.sIx_nat, HT.sIx_none, List.length_take, List.length_drop, ← len_tl]
  omega
theorem Lt.to {a b : Nat} {z : Str} (h : Lt a b z) (k : Nat) : Lt (min k a) (min k b) (cutS z none (some (k : Int))) := by
  have h1 := h.lo; have h2 := h.hi
  exact ⟨by rw [cut_to_len]; omega, by rw [cut_to_len]; omega, fun c hc => h.ch c (cut_mem hc)⟩
theorem joinL_nil : ∀ ps : List (List Nat), TL.joinL [] ps = ps.flatten
  | [] => rfl
  | [p] => by simp [TL.joinL]
  | p :: q :: r => by
    show p ++ ([] ++ TL.joinL [] (q :: r)) = _
    rw [joinL_nil (q :: r)]
    simp
theorem Lt.join {ys : List Str} (h : ∀ y ∈ ys, Lt 1 1 y) : Lt ys.length ys.length (Txt.join "" ys) := by
  have e : (Txt.join "" ys).cps.toList = (ys.map fun y => y.cps.toList).flatten := by
    rw [TL.join_eq]
    exact (TL.tl_join "" ys).trans (joinL_nil _)
  have el : ∀ {ys : List Str}, (∀ y ∈ ys, Lt 1 1 y) → ((ys.map fun y => y.cps.toList).flatten).length = ys.length := by
    intro ys
    induction ys with
    | nil => intro _; rfl
    | cons y r ih =>
      intro h
      have h1 := h y List.mem_cons_self
      have z := ih fun y hy => h y (List.mem_cons_of_mem _ hy)
      have l1 := h1.lo; have l2 := h1.hi
      rw [len_tl] at l1 l2
      rw [List.map_cons, List.flatten_cons, List.length_append, z, List.length_cons]
      omega
  have l := el h
  refine ⟨by rw [len_tl, e, l]; exact Nat.le_refl _, by rw [len_tl, e, l]; exact Nat.le_refl _, fun c hc => ?_⟩
  rw [e] at hc
  obtain ⟨p, hp, hcp⟩ := List.mem_flatten.mp hc
  obtain ⟨y, hy, rfl⟩ := List.mem_map.mp hp
  exact (h y hy).ch c hcp
theorem sum_ones : ∀ {ys : List Str}, (∀ y ∈ ys, Lt 1 1 y) → (ys.map (·.length)).sum = ys.length
  | [], _ => rfl
  | y :: r, h => by
    have h1 := h y List.mem_cons_self
    have z := sum_ones fun y hy => h y (List.mem_cons_of_mem _ hy)
    have l1 := h1.lo; have l2 := h1.hi
    rw [List.map_cons, List.sum_cons, z, List.length_cons]
    omega
/-! ### one that is not used -/
theorem nd_sub {α : Type} [DecidableEq α] : ∀ {xs ys : List α}, xs.Nodup → (∀ x ∈ xs, x ∈ ys) → xs.length ≤ ys.length
  | [], _, _, _ => Nat.zero_le _
  | x :: r, ys, nd, h => by
    have hx := h x List.mem_cons_self
    have nd' := List.nodup_cons.mp nd
    have z := nd_sub (ys := ys.erase x) nd'.2 fun y hy => (List.mem_erase_of_ne (fun e : y = x => nd'.1 (by rw [← e]; exact hy))).mpr (h y (List.mem_cons_of_mem _ hy))
    rw [List.length_erase_of_mem hx] at z
    have : 0 < ys.length := List.length_pos_of_mem hx
    rw [List.length_cons]
    omega
def letter (k : Nat) : Nat := LS.cps.toList.getD k 0
theorem letter_at {k : Nat} (h : k < 26) : LS.cps.toList[k]? = some (letter k) := by
  have z : ∀ j : Nat, j < 26 → LS.cps.toList[j]? = some (letter j) := by decide +kernel
  exact z k h
theorem letter_inj {i j : Nat} (hi : i < 26) (hj : j < 26) (h : letter i = letter j) : i = j := by
  have z : ∀ i : Nat, i < 26 → ∀ j : Nat, j < 26 → letter i = letter j → i = j := by decide +kernel
  exact z i hi j hj h
def tail2 (k : Nat) : Str := (⟨#[letter (k / 26)]⟩ : Str) ++ ⟨#[letter (k % 26)]⟩
theorem tail2_inj {p : Str} {i j : Nat} (hi : i < 676) (hj : j < 676) (h : p ++ tail2 i = p ++ tail2 j) : i = j := by
  have e := congrArg (fun z : Str => z.cps.toList) h
  simp only [app_tl, tail2] at e
  have e2 := List.append_cancel_left e
  have e3 : [letter (i / 26), letter (i % 26)] = [letter (j / 26), letter (j % 26)] := by simpa using e2
  injection e3 with h1 h2
  injection h2 with h2 _
  have a := letter_inj (by omega) (by omega) h1
  have b := letter_inj (by omega) (by omega) h2
  omega
theorem tail2_lt {k : Nat} (h : k < 676) : Lt 2 2 (tail2 k) :=
  (Lt.one (List.mem_of_getElem? (letter_at (by omega)))).app (Lt.one (List.mem_of_getElem? (letter_at (by omega))))
theorem unused (p : Str) (us : List Str) (h : us.length < 676) : ∃ k, k < 676 ∧ p ++ tail2 k ∉ us := by
  apply Classical.byContradiction
  intro no
  have all : ∀ z ∈ (List.range 676).map (fun k => p ++ tail2 k), z ∈ us := fun z hz => by
    obtain ⟨k, hk, rfl⟩ := List.mem_map.mp hz
    apply Classical.byContradiction
    intro q
    exact no ⟨k, List.mem_range.mp hk, q⟩
  have nd : ((List.range 676).map (fun k => p ++ tail2 k)).Nodup := by
    unfold List.Nodup
    rw [List.pairwise_map]
    refine List.Pairwise.imp_of_mem ?_ (List.nodup_range (n := 676))
    intro a b ha hb hab e
    exact hab (tail2_inj (List.mem_range.mp ha) (List.mem_range.mp hb) e)
  have z := nd_sub nd all
  rw [List.length_map, List.length_range] at z
  omega
theorem inV_str {x : Str} (xs : List Str) : inV (.str x) (xs.map V.str) = decide (x ∈ xs) := by
  unfold inV
  induction xs with
  | nil => rfl
  | cons y r ih =>
    rw [List.map_cons, List.any_cons, ih]
    show ((y == x) || decide (x ∈ r)) = decide (x ∈ y :: r)
    by_cases e : x = y
    · subst e; simp
    · have e2 : ¬ y = x := fun q => e q.symm
      simp [e, e2]
theorem strs_flat (xs : List Str) : (xs.map V.str).all flatV = true := by
  rw [List.all_eq_true]
  intro x hx
  obtain ⟨n, _, rfl⟩ := List.mem_map.mp hx
  rfl
end XL
set_option Elab.async false
set_option linter.all false
set_option maxRecDepth 100000
set_option maxHeartbeats 4000000
/-! XLine: C(*row), a method within a try, zip with K said, classes of an own error. -/
namespace XL
open PySem PySem.Spec PyProof.Rows L2
section
variable {X : Cx} {CX : CXT} {k : Nat} {f C : Addr} {fd : FuncData} {ps : List Str} {ds : List Value} {dvs : List V} {sp : Sp} {x m : Str} {p pos apos sp_ : Pos} {e o : Expr} {es : List Expr} {te ta : TE} {t : TA}
def tMakeS (K : PySem.W.Frag) (C : Addr) (sp : Sp) (dvs : List V) (E : XK) (te : TE) : TE := fun σ H Q => te σ H fun y H1 => ∃ a xs, y = V.ref a ∧ (SqT K H1 a xs ∨ SqL K H1 a xs) ∧
  ∀ x dx, H1 x = none → H1 dx = none → dx ≠ x → sp (.ref x :: (xs ++ dvs)) (upd (upd H1 dx (.own x)) x (.ins C dx [])) (fun v H2 => v = .non ∧ Q (.ref x) H2) E
/-- C(*row) -/
theorem pe_makeS {E : XK} (K : PySem.W.Frag) (M : Mk X.K C f) (F : FnOk X.prog X.w X.K X.mg X.base CX k f fd ps sp) (hr : Room (k + 1) X.A) (hg : Gl X x) (hm : X.mg x = some (.ref C)) (hb : Binds X.K fd ps ds) (hd : Vals dvs ds) (hx : Passes CX X E) (he : PE X e te) (hK : X.K = K := by rfl) (hdb : (x == ("__debug__" : Str)) = false := by decide)
    (hst : starEach [.Starred e sp_] X.env = [(true, eval e X.env)] := by rfl) : PE X (.Call (.Name x p) [.Starred e sp_] [] pos) (tMakeS K C sp dvs E te) := by
  subst hK
  refine ⟨fun pins s σ H Q I h => ?_⟩
  refine wpAny_Call_Name_kw (ld_glob I hg hm ?_ hdb)
  refine PySem.W.callWith_S (h₀ := X.base) I.ok.mod.kin M.kp (thn (he.run pins s σ H _ I h) fun v s1 ⟨y, H1, I1, ry, a, xs, ey, hxs, q⟩ => ?_) hst
  subst ey
  obtain rfl : v = Value.ref a := ry
  exact StX.star_any I1 hxs fun us s2 I2 rv => ⟨I2.kIn, run_make M F hr hb hd hx I2 rv q⟩
def tMethS (C : Addr) (m : Str) (sp : Sp) (E : L2.St → XK) (ta : TE) (t : TA) : TE := fun σ H Q => ta σ H fun x H1 => ∃ a dx fs, x = .ref a ∧ H1 a = some (.ins C dx fs) ∧ fs.lookup m = none ∧
  t σ H1 fun vs H2 => sp (x :: vs) H2 Q (E σ)
/-- o.m(..) within a try -/
theorem pe_methT {E : L2.St → XK} {pl : Sem Bool} (he : PE X o ta) (c : Cls X.K C) (hm : Meth X.K C m f) (F : FnOk X.prog X.w X.K X.mg X.base CX k f fd ps sp) (hr : Room k X.A) (hb : Binds X.K fd ps []) (hx : ∀ σ, PassesAt CX X σ (E σ)) (ha : PA X (e :: es) t)
    (hst : starEach (e :: es) X.env = (false, eval e X.env) :: starEach es X.env := by rfl) (hpl : (backTo pos (starEach es X.env)).any (·.1) = false := by rfl)
    (ht : eval (.Call (.Attribute o m apos) (e :: es) [] pos) X.env = (do
      let ov ← eval o X.env
      standAt apos.atName
      let (f, first) ← holding [ov] (getMethod ov m pl)
      callWith pos f first (backTo pos (starEach (e :: es) X.env)) (backToKw pos (keywordEach [] X.env))) := by rfl) :
    PE X (.Call (.Attribute o m apos) (e :: es) [] pos) (tMethS C m sp E ta t) := by
  refine ⟨fun pins s σ H Q I h => ?_⟩
  refine PySem.W.methodCall_KW (pl := pl) (thn (he.run pins s σ H _ I h) fun u s1 ⟨x, H1, I1, rx, a, dx, fs, ex, ea, l, q⟩ => ?_) ht
  subst ex
  obtain rfl : u = Value.ref a := rx
  refine getmeth_ok I1 ea c hm l ?_
  refine PySem.W.callWith_K (first := [.ref a]) (h₀ := X.base) I.ok.mod.kin hm.kp (thn (ha.run pos pins s1 σ H1 _ I1 q) fun us s2 ⟨vs, H2, I2, r, q2⟩ => ⟨I2.kIn, ?_⟩) hst hpl
  exact run_fnS (us := .ref a :: us) (vs := .ref a :: vs) (E := E) F hr hb (hx σ) I2 (.cons rfl r) q2
theorem pe_methT0 {E : L2.St → XK} {pl : Sem Bool} (he : PE X o ta) (c : Cls X.K C) (hm : Meth X.K C m f) (F : FnOk X.prog X.w X.K X.mg X.base CX k f fd ps sp) (hr : Room k X.A) (hb : Binds X.K fd ps []) (hx : ∀ σ, PassesAt CX X σ (E σ))
    (ht : eval (.Call (.Attribute o m apos) [] [] pos) X.env = (do
      let ov ← eval o X.env
      standAt apos.atName
      let (f, first) ← holding [ov] (getMethod ov m pl)
      callWith pos f first (backTo pos (starEach [] X.env)) (backToKw pos (keywordEach [] X.env))) := by rfl) :
    PE X (.Call (.Attribute o m apos) [] [] pos) (tMethS C m sp E ta tNil) := by
  refine ⟨fun pins s σ H Q I h => ?_⟩
  refine PySem.W.methodCall_KW (pl := pl) (thn (he.run pins s σ H _ I h) fun u s1 ⟨x, H1, I1, rx, a, dx, fs, ex, ea, l, q⟩ => ?_) ht
  subst ex
  obtain rfl : u = Value.ref a := rx
  refine getmeth_ok I1 ea c hm l ?_
  exact PySem.W.callWith_K0 (first := [.ref a]) I1.kIn hm.kp (run_fnS (us := [.ref a]) (vs := [.ref a]) (E := E) F hr hb (hx σ) I1 (.cons rfl .nil) q)
theorem pi_zipK {e e2 : Expr} {ta : TA} {p pos tpos : Pos} {elts : List Expr} {kk : Nat} (K : PySem.W.Frag) (hg : Gl X "zip") (hm : X.mg "zip" = none) (ha : PA X [e, e2] ta) (hK : X.K = K := by rfl)
    (hs : starEach [e, e2] X.env = (false, eval e X.env) :: starEach [e2] X.env := by rfl) (hpl : (backTo pos (starEach [e2] X.env)).any (·.1) = false := by rfl) :
    PI X (.Tuple elts kk tpos) (.Call (.Name "zip" p) [e, e2] [] pos) (iZip K ta) := hK ▸ pi_zip hg hm ha hs hpl
end
theorem kit_ty_of {K : PySem.W.Frag} {D : Addr} {T : String} {b : Bool} (h1 : PySem.W.kitMeta T = true) (h2 : PySem.W.subIn K (.ref D) (.type T) = some b) : PySem.W.kitOne K (.ref D) (.type T) = some b := by
  show (if (Value.ref D == Value.type T) = true then some true else (if PySem.W.kitMeta T = true then PySem.W.subIn K (.ref D) (.type T) else none)) = some b
  rw [if_neg (fun h => by cases h), if_pos h1]
  exact h2
end XL
set_option Elab.async false
set_option linter.all false
set_option maxRecDepth 100000
set_option maxHeartbeats 4000000
/-! XHot: a def that raises nothing and walks nothing, called within an except suite. -/
namespace XL
open PySem PySem.Spec PyProof.Rows L2 L2H
/-- what a def promises there -/
structure FnQ (P : Program) (w : World) (K : PySem.W.Frag) (mg : Str → Option Value) (base : Heap) (k : Nat) (f : Addr) (fd : FuncData) (ps : List Str) (sp : Sp) : Prop where
  len : ∀ vs H Q E, sp vs H Q E → vs.length = ps.length
  run : ∀ (A : Around) (outer : List Env) (s : Shared) (H : Hp) (args : Args) (us : List Value) (vs : List V) (Q : VK) (E : XK) (p : Addr × Obj), RoomH k A → PinOk outer H s p → Env0 P w K mg base A outer s H → BindsTo s fd args (ps.zip us) → Vals vs us → sp vs H Q E →
    codeAny (model P w) A (.call (.ref f) args) (CR CX0 outer P w H s Q E) s
theorem okQ {P : Program} {w : World} {K : PySem.W.Frag} {mg : Str → Option Value} {base : Heap} {x qual : Str} {st : Stmt} {f : Addr} {fd : FuncData} {N ps : List Str} {k : Nat} {sp : Sp} (F : Fun K x qual st f fd) (S : FnScope N ps (defScope st)) (len : ∀ vs H Q E, sp vs H Q E → vs.length = ps.length)
    (hbody : ∀ (cdv : Value) (A : Around) (outer : List Env) (s : Shared) (H : Hp) (vs : List V) (Q : VK) (E : XK) (p : Addr × Obj), RoomH k (A.deeper (envOfC qual (defScope st) s.heap.objs.size f cdv)) → sp vs H Q E →
      ∃ t, PSs (cxH CX0 P w K mg base N qual (defScope st) f cdv A outer s H E p) (defBody st) t ∧ t { nx := fun _ H' => Q .non H', rt := Q } (L2.start N vs) H) : FnQ P w K mg base (k + 1) f fd ps sp := by
  obtain ⟨oc, od, kV, doc, pm, an, cdv, ct, osl, rfl, lk, hcd⟩ := F.ex
  refine ⟨len, fun A outer s H args us vs Q E p hr hpin e0 hb r hsp => ?_⟩
  have hl := len _ _ _ _ hsp
  have KX : K.In s.heap := e0.mod.kin.keeps fun b o e => (e0.bs b o e).1
  have lim : s.heap.NoLimit := e0.mod.nolimit.keeps fun b o e => (e0.bs b o e).1
  have hkind : ∀ y ∈ ps.zip us, (defScope st).names.lookup y.1 = some .local ∨ ((defScope st).names.lookup y.1 = some .cell ∧ ((cellsFrom (s.heap.objs.size + 1) (defScope st).names []).lookup y.1).isSome = true) := fun ⟨n, v⟩ hy => by
    rcases S.par n (List.of_mem_zip hy).1 with q | q
    · exact .inl q
    · exact .inr ⟨q, PySem.W.cellsFrom_some _ _ _ (.inl q)⟩
  refine codeAny_call_function hr.depth (KX _ _ lk) rfl S.co S.gen rfl (PySem.W.codeRec_of KX hcd) (hb _ _ _ _ ?_)
  refine wpAny_newFunctionEnv_cells S.kind hkind fun env he s1 x => ?_
  subst he
  refine ⟨lim.keeps x.toInCall.keep, codeAny_func ?_⟩
  obtain ⟨t, ht, hq⟩ := hbody cdv A outer s H vs Q E p (hr.deeper _) hsp
  have I : Inv (cxH CX0 P w K mg base N qual (defScope st) f cdv A outer s H E p) [] (L2.start N vs) H s1 := inv_startH S hpin e0 hl r x
  refine wpAny_mono (ht.run [] s1 (L2.start N vs) H _ I hq) (fun fl s' hs => ?_) fun e s' hs => hs
  have fin : ∀ {σ' : L2.St} {H' : Hp} {v : V} {u : Value}, Inv (cxH CX0 P w K mg base N qual (defScope st) f cdv A outer s H E p) [] σ' H' s' → RelV v u → Q v H' → CE outer P w H s Q u s' :=
    fun {σ' H' v u} J rv q => ⟨v, H', J.os, J.bare, J.base, J.hok, rv, q⟩
  cases fl with
  | ret u =>
    obtain ⟨v, σ', H', J, rv, q⟩ := hs
    exact fin J rv q
  | next =>
    obtain ⟨σ', H', J, q⟩ := hs
    exact fin (v := V.non) (u := Value.none) J rfl q
  | brk =>
    obtain ⟨_, _, _, q⟩ := hs
    exact False.elim q
  | cont =>
    obtain ⟨_, _, _, q⟩ := hs
    exact False.elim q
section
variable {X : Cx} {k : Nat} {f : Addr} {fd : FuncData} {ps : List Str} {sp : Sp} {E : XK} {x : Str} {q pos : Pos} {e : Expr} {es : List Expr} {t : TA}
theorem pe_callQ (F : FnQ X.prog X.w X.K X.mg X.base k f fd ps sp) (hr : RoomH k X.A) (hc : ∃ p, p ∈ X.pn) (hg : Gl X x) (hm : X.mg x = some (.ref f)) (hk : PySem.W.keepIn X.K (.ref f) = true) (hb : Binds X.K fd ps []) (hx : Passes CX0 X E)
    (ha : PA X (e :: es) t) (hdb : (x == ("__debug__" : Str)) = false := by decide) (he : starEach (e :: es) X.env = (false, eval e X.env) :: starEach es X.env := by rfl) (hpl : (backTo pos (starEach es X.env)).any (·.1) = false := by rfl) :
    PE X (.Call (.Name x q) (e :: es) [] pos) (fun σ H Q => t σ H fun vs H1 => sp vs H1 Q E) := by
  refine ⟨fun pins s σ H Q I h => ?_⟩
  refine wpAny_Call_Name_kw (ld_glob I hg hm ?_ hdb)
  refine PySem.W.callWith_K (h₀ := X.base) I.ok.mod.kin hk (thn (ha.run pos pins s σ H _ I h) fun us s1 ⟨vs, H1, I1, r, q⟩ => ⟨I1.kIn, ?_⟩) he hpl
  obtain ⟨p, hp⟩ := hc
  have hl : us.length = ps.length := by rw [← r.length]; exact F.len _ _ _ _ q
  have b := hb s1 us I1.kIn (by rw [List.append_nil]; exact hl)
  rw [List.append_nil] at b
  have P1 := I1.pin p (List.mem_append_left _ hp)
  have hpin : PinOk X.stack H1 s1 p := ⟨P1.1, P1.2.1, fun hm => (List.mem_cons.mp (I1.stkSub p.1 hm)).elim P1.2.2.1 P1.2.2.2.1, P1.2.2.2.2⟩
  refine wpAny_call (codeAny_mono (F.run X.A X.stack s1 H1 ⟨us, []⟩ us vs Q E p hr hpin I1.env0 b r q) fun r s' hq => ?_)
  cases r with
  | error e => exact hx pins σ _ _ e s' I1 hq
  | ok fl =>
    cases fl with
    | ret u => exact I1.after hq
    | next => exact False.elim hq
    | brk => exact False.elim hq
    | cont => exact False.elim hq
end
theorem roomQ {X : Cx} {k j : Nat} {a : Addr} {pn : List (Addr × Obj)} (hr : Room k X.A) (h : j ≤ k) : RoomH j (X.suite a pn).A := ⟨(hr.mono h).dp, (hr.mono h).un⟩
end XL
set_option Elab.async false
set_option linter.all false
set_option maxRecDepth 100000
set_option maxHeartbeats 4000000
/-! XGuard: defs that are called while no repr is under way (Around.guards is known to be empty); repr of data there. -/
namespace XL
open PySem PySem.Spec PyProof.Rows L2
/-- what a def promises when no repr is under way -/
structure FnG (P : Program) (w : World) (K : PySem.W.Frag) (mg : Str → Option Value) (base : Heap) (CX : CXT) (k : Nat) (f : Addr) (fd : FuncData) (ps : List Str) (sp : Sp) : Prop where
  len : ∀ vs H Q E, sp vs H Q E → vs.length = ps.length
  run : ∀ (A : Around) (outer : List Env) (s : Shared) (H : Hp) (args : Args) (us : List Value) (vs : List V) (Q : VK) (E : XK), Room k A → A.guards = some [] → Env0 P w K mg base A outer s H → BindsTo s fd args (ps.zip us) → Vals vs us → sp vs H Q E →
    codeAny (model P w) A (.call (.ref f) args) (CR CX outer P w H s Q E) s
section
variable {P : Program} {w : World} {K : PySem.W.Frag} {mg : Str → Option Value} {base : Heap} {CX : CXT}
theorem FnG.of {k : Nat} {f : Addr} {fd : FuncData} {ps : List Str} {sp : Sp} (F : FnOk P w K mg base CX k f fd ps sp) : FnG P w K mg base CX k f fd ps sp := ⟨F.len, fun A outer s H args us vs Q E hr _ => F.run A outer s H args us vs Q E hr⟩
theorem fnG_of {x qual : Str} {st : Stmt} {f : Addr} {fd : FuncData} {N ps : List Str} {k : Nat} {sp : Sp} (F : Fun K x qual st f fd) (S : FnScope N ps (defScope st)) (len : ∀ vs H Q E, sp vs H Q E → vs.length = ps.length)
    (hbody : ∀ (cdv : Value) (A : Around) (outer : List Env) (s : Shared) (H : Hp) (vs : List V) (Q : VK) (E : XK), Room k (A.deeper (envOfC qual (defScope st) s.heap.objs.size f cdv)) → A.guards = some [] → sp vs H Q E →
      ∃ t, PSs (cxOf CX P w K mg base N qual (defScope st) f cdv A outer s H E) (defBody st) t ∧ t { nx := fun _ H' => Q .non H', rt := Q } (L2.start N vs) H) : FnG P w K mg base CX (k + 1) f fd ps sp := by
  obtain ⟨oc, od, kV, doc, pm, an, cdv, ct, osl, rfl, lk, hcd⟩ := F.ex
  refine ⟨len, fun A outer s H args us vs Q E hr hg e0 hb r hsp => ?_⟩
  have hl := len _ _ _ _ hsp
  have KX : K.In s.heap := e0.mod.kin.keeps fun b o e => (e0.bs b o e).1
  have lim : s.heap.NoLimit := e0.mod.nolimit.keeps fun b o e => (e0.bs b o e).1
  have hkind : ∀ y ∈ ps.zip us, (defScope st).names.lookup y.1 = some .local ∨ ((defScope st).names.lookup y.1 = some .cell ∧ ((cellsFrom (s.heap.objs.size + 1) (defScope st).names []).lookup y.1).isSome = true) := fun ⟨n, v⟩ hy => by
    rcases S.par n (List.of_mem_zip hy).1 with q | q
    · exact .inl q
    · exact .inr ⟨q, PySem.W.cellsFrom_some _ _ _ (.inl q)⟩
  refine codeAny_call_function hr.depth (KX _ _ lk) rfl S.co S.gen rfl (PySem.W.codeRec_of KX hcd) (hb _ _ _ _ ?_)
  refine wpAny_newFunctionEnv_cells S.kind hkind fun env he s1 x => ?_
  subst he
  refine ⟨lim.keeps x.toInCall.keep, codeAny_func ?_⟩
  obtain ⟨t, ht, hq⟩ := hbody cdv A outer s H vs Q E (hr.deeper _) hg hsp
  have I : Inv (cxOf CX P w K mg base N qual (defScope st) f cdv A outer s H E) [] (L2.start N vs) H s1 := inv_start S hr.hd e0 hl r x
  refine wpAny_mono (ht.run [] s1 (L2.start N vs) H _ I hq) (fun fl s' hs => ?_) fun e s' hs => hs
  cases fl with
  | ret u =>
    obtain ⟨v, σ', H', J, rv, q⟩ := hs
    exact ⟨v, H', J.os, J.bare, J.base, J.hok, rv, q⟩
  | next =>
    obtain ⟨σ', H', J, q⟩ := hs
    exact ⟨V.non, H', J.os, J.bare, J.base, J.hok, rfl, q⟩
  | brk =>
    obtain ⟨_, _, _, q⟩ := hs
    exact False.elim q
  | cont =>
    obtain ⟨_, _, _, q⟩ := hs
    exact False.elim q
/-- a def that raises nothing -/
theorem okG {x qual : Str} {st : Stmt} {f : Addr} {fd : FuncData} {N ps : List Str} {k : Nat} {sp : Sp} (F : Fun K x qual st f fd) (S : FnScope N ps (defScope st)) (len : ∀ vs H Q E, sp vs H Q E → vs.length = ps.length)
    (hbody : ∀ (cdv : Value) (A : Around) (outer : List Env) (s : Shared) (H : Hp) (vs : List V) (Q : VK) (E : XK), Room k (A.deeper (envOfC qual (defScope st) s.heap.objs.size f cdv)) → A.guards = some [] → sp vs H Q E →
      ∃ t, PSs (cxOf CX0 P w K mg base N qual (defScope st) f cdv A outer s H E).nox (defBody st) t ∧ t { nx := fun _ H' => Q .non H', rt := Q } (L2.start N vs) H) : FnG P w K mg base CX0 (k + 1) f fd ps sp :=
  fnG_of F S len fun cdv A outer s H vs Q E hr hg hsp => let ⟨t, h, q⟩ := hbody cdv A outer s H vs Q E hr hg hsp; ⟨t, h.nox, q⟩
end
section
variable {X : Cx} {CX : CXT} {k : Nat} {f : Addr} {fd : FuncData} {ps : List Str} {sp : Sp} {E : XK} {x : Str} {p pos : Pos} {e : Expr} {es : List Expr} {t : TA}
theorem run_fnG {pins : List (Addr × Obj)} {σ : L2.St} {H : Hp} {s : Shared} {Q : VK} {us : List Value} {vs : List V} (F : FnG X.prog X.w X.K X.mg X.base CX k f fd ps sp) (hr : Room k X.A) (hg : X.A.guards = some []) (hb : Binds X.K fd ps []) (hx : Passes CX X E)
    (I : Inv X pins σ H s) (r : Vals vs us) (h : sp vs H Q E) : wpAny (model X.prog X.w) X.A (call (.ref f) us) (EP X pins σ Q) X.xe s := by
  have hl : us.length = ps.length := by rw [← r.length]; exact F.len _ _ _ _ h
  have b := hb s us I.kIn (by rw [List.append_nil]; exact hl)
  rw [List.append_nil] at b
  refine wpAny_call (codeAny_mono (F.run X.A X.stack s H ⟨us, []⟩ us vs Q E hr hg I.env0 b r h) fun r s' hq => ?_)
  cases r with
  | error e => exact hx pins σ _ _ e s' I hq
  | ok fl =>
    cases fl with
    | ret u => exact I.after hq
    | next => exact False.elim hq
    | brk => exact False.elim hq
    | cont => exact False.elim hq
theorem pe_callG (F : FnG X.prog X.w X.K X.mg X.base CX k f fd ps sp) (hr : Room k X.A) (hg : X.A.guards = some []) (hgl : Gl X x) (hm : X.mg x = some (.ref f)) (hk : PySem.W.keepIn X.K (.ref f) = true) (hb : Binds X.K fd ps []) (hx : Passes CX X E)
    (ha : PA X (e :: es) t) (hdb : (x == ("__debug__" : Str)) = false := by decide) (he : starEach (e :: es) X.env = (false, eval e X.env) :: starEach es X.env := by rfl) (hpl : (backTo pos (starEach es X.env)).any (·.1) = false := by rfl) :
    PE X (.Call (.Name x p) (e :: es) [] pos) (fun σ H Q => t σ H fun vs H1 => sp vs H1 Q E) := by
  refine ⟨fun pins s σ H Q I h => ?_⟩
  refine wpAny_Call_Name_kw (ld_glob I hgl hm ?_ hdb)
  refine PySem.W.callWith_K (h₀ := X.base) I.ok.mod.kin hk (thn (ha.run pos pins s σ H _ I h) fun us s1 ⟨vs, H1, I1, r, q⟩ => ⟨I1.kIn, ?_⟩) he hpl
  exact run_fnG F hr hg hb hx I1 r q
theorem u70 {k : Nat} {A : Around} (r : Room k A) : A.units + 70 < cLine := by have := r.un; omega
/-- repr of data -/
def rRepr (K : PySem.W.Frag) : List V → Hp → VK → Prop := fun xs H Q => ∃ v d, xs = [v] ∧ Dp K H v d ∧ d.showable = true ∧ d.hasDict = false ∧ d.depth ≤ 64 ∧ d.shown.length ≤ sizeLine ∧ Q (.str d.shown) H
theorem call_reprG (K : PySem.W.Frag) (hg : X.A.guards = some []) (hu : X.A.units + 70 < cLine) (hK : X.K = K := by rfl) : CallR X (.builtin "repr") (rRepr K) := by
  subst hK
  intro pins s σ H xs us Q I r h
  obtain ⟨v, d, rfl, hd, h1, h2, h3, h4, q⟩ := h
  obtain ⟨u, rfl, ru⟩ : ∃ u, us = [u] ∧ RelV v u := by
    cases r with
    | cons a b =>
      cases b
      exact ⟨_, rfl, a⟩
  obtain ⟨as, rd⟩ := Dp.reads I d v u hd ru
  have big : ∀ a : Addr, u = .ref a → wpAny (model X.prog X.w) X.A (call (.builtin "repr") [u]) (EP X pins σ Q) X.xe s := by
    rintro a rfl
    exact repr_of_reads' rd h1 (PyData.noDict_hsm h2) hg (by omega) (fun _ _ e => e) (fun h' t tk hk => ⟨.str d.shown, H, I.kept hk, ⟨_, rfl⟩, q⟩) h4
  cases hd with
  | non =>
    cases ru
    exact PySem.P.repr_of_none ⟨.str _, H, I.tok _, ⟨_, rfl⟩, by simpa only [PyData.shown] using q⟩
  | bl b =>
    cases ru
    exact PySem.P.repr_of_bool ⟨.str _, H, I.tok _, ⟨_, rfl⟩, by simpa only [PyData.shown] using q⟩
  | int i =>
    obtain ⟨t, rfl⟩ := ru
    exact PySem.P.repr_of_int (by simpa [PyData.showable] using h1) ⟨.str _, H, I.tok _, ⟨_, rfl⟩, by simpa only [PyData.shown] using q⟩
  | str x =>
    obtain ⟨t, rfl⟩ := ru
    exact PySem.P.repr_of_str ⟨.str _, H, I.tok _, ⟨_, rfl⟩, by simpa only [PyData.shown] using q⟩ (by simpa only [PyData.shown] using h4)
  | lst _ _ => exact big _ ru
  | tup _ _ => exact big _ ru
end
/-! ### the law's own call -/
theorem law_callG {P : Program} {w : World} {K : PySem.W.Frag} {mg mb : Str → Option Value} {CX : CXT} {k : Nat} {fa a : Addr} {fd : FuncData} {x : Str} {sp : Sp} {s₁ : Shared} {vs : List Value} {ns : List Int}
    (KX : K.In s₁.heap) (hns : s₁.heap.Ns mainGlobals mg) (hb : s₁.heap.Ns builtinsNs mb) (hbb : ∀ x : Str, x ≠ "__name__" → mb x = bootBuiltins x) (hlim : s₁.heap.NoLimit) (hg : s₁.gens = #[])
    (ha : s₁.heap.get? a = some { cls := .type "list", data := .seq vs.toArray }) (hi : IntsAre vs ns) (hl : ns.length ≤ sizeLine) (hr : Room k callerA)
    (F : ∀ base : Heap, K.In base → base.Ns mainGlobals mg → FnG P w K mg base CX k fa fd [x] sp) (hbind : ∀ (s : Shared) (u : Value), BindsTo s fd ⟨[u], []⟩ [(x, u)])
    (hsp : ∀ H : Hp, Only H → SqL K H a (ns.map V.int) → sp [.ref a] H (fun v _ => v = .bl true) fun _ _ _ => False)
    (hCX : ∀ H e s', CX [] H s₁ (fun _ _ _ => False) e s' → False) :
    codeAny (model P w) callerA (.call (.ref fa) ⟨[.ref a], []⟩) (fun r s' => r = .ok (.ret (.bool true)) ∧ OldK s₁.heap s'.heap ∧ s'.os = s₁.os ∧ AllBare s'.gens) s₁ := by
  have rv := vals_ints hi
  have lenV := hi.length
  -- nothing is tracked but the script
  have main : ∀ H : Hp, (∀ b, H b = none ∨ (b = a ∧ K.lookup a = none ∧ H b = some (.frz { cls := .type "list", data := .seq vs.toArray } (.lst (ns.map V.int))))) → SqL K H a (ns.map V.int) → HOk P w H s₁.heap →
      codeAny (model P w) callerA (.call (.ref fa) ⟨[.ref a], []⟩) (fun r s' => r = .ok (.ret (.bool true)) ∧ OldK s₁.heap s'.heap ∧ s'.os = s₁.os ∧ AllBare s'.gens) s₁ := by
    intro H hH hS hok
    have nsK : ∀ {b : Addr} {m : Str → Option Value}, s₁.heap.Ns b m → (hidT s₁.heap H).Ns b m := fun {b m} ⟨o, es, ep, e, d, r⟩ => by
      refine ⟨o, es, ep, hidT_get e ?_, d, r⟩
      rcases hH b with z | ⟨z, _⟩
      · exact z
      · rw [z, ha] at e
        cases e
        cases d
    have hKb : K.In (hidT s₁.heap H) := fun b o e => hidT_get (KX b o e) (by
      rcases hH b with z | ⟨z, z2, _⟩
      · exact z
      · rw [z, z2] at e
        cases e)
    have hM : Mod K mg (hidT s₁.heap H) := ⟨hKb, nsK hns, ⟨mb, nsK hb, hbb⟩, let ⟨mc, h1, h2⟩ := hlim; ⟨mc, nsK h1, h2⟩⟩
    have e0 : Env0 P w K mg (hidT s₁.heap H) callerA [] s₁ H := ⟨rfl, hM, fun b o e => of_hidT e, Nat.le_of_eq (hidT_size _ _), trivial, fun b hb => (nomatch hb), hok, .of_eq hg⟩
    have hO : Only H := fun b => (hH b).imp id fun z => ⟨_, _, z.2.2⟩
    refine codeAny_mono ((F _ hKb (nsK hns)).run callerA [] s₁ H ⟨[.ref a], []⟩ [.ref a] [.ref a] _ _ hr rfl e0 (hbind s₁ (.ref a)) (.cons rfl .nil) (hsp H hO hS)) fun r s' h => ?_
    cases r with
    | error e => exact (hCX H e s' h).elim
    | ok fl =>
      cases fl with
      | next => exact False.elim h
      | brk => exact False.elim h
      | cont => exact False.elim h
      | ret u =>
        obtain ⟨v, H', os, bare, un, hok', r', q⟩ := h
        have q' : v = .bl true := q
        subst q'
        obtain rfl : u = Value.bool true := r'
        refine ⟨rfl, OldK.of_keep fun b o e => ?_, os, bare⟩
        rcases hH b with z | ⟨_, _, z⟩
        · exact un.keep b o e z (fun y => nomatch y) (by simp)
        · obtain ⟨e1, _⟩ := hok b _ z
          obtain ⟨e2, _⟩ := hok' b _ (un.frzs b _ _ z)
          rw [e] at e1
          cases e1
          exact e2
  cases hk : K.lookup a with
  | some o =>
    have e := KX a o hk
    rw [ha] at e
    cases e
    exact main (fun _ => none) (fun _ => .inl rfl) (.inr ⟨_, vs.toArray, _, hk, rfl, rfl, rfl, by rw [List.size_toArray, lenV]; exact hl, by simpa using rv⟩) (fun b u z => nomatch z)
  | none =>
    refine main (fun b => if b = a then some (.frz { cls := .type "list", data := .seq vs.toArray } (.lst (ns.map V.int))) else none) (fun b => ?_) (.inl (.inr ⟨{ cls := .type "list", data := .seq vs.toArray }, if_pos rfl⟩)) (fun b u z => ?_)
    · by_cases hb : b = a
      · exact .inr ⟨hb, hk, if_pos hb⟩
      · exact .inl (if_neg hb)
    · by_cases hb : b = a
      · have z' := (if_pos hb).symm.trans z
        cases z'
        subst hb
        exact ⟨ha, by rw [List.length_map]; exact hl, vs, _, rv, ha⟩
      · have z' := (if_neg hb).symm.trans z
        cases z'
theorem walk_ofG {l : PySem.W.OpenLaw} {n k : Nat} {q : Program} {loose : List Str} {XP : (Str → Option Value) → Heap → Prop} {YP : World → Heap → Prop} {d : DefRec} {K : Params → PySem.W.Frag} {CX : World → CXT} {sp : World → Sp} {x : Str}
    (hn : l.most = some n) (hn2 : n ≤ sizeLine) (hdf : d.params.defaults = []) (hr : Room k callerA)
    (hY : ∀ (w : World) (h : Heap), YP w h → (K w.params).In h)
    (F : ∀ (w : World) (mg : Str → Option Value) (fa : Addr) (h : Heap), (K w.params).In h → h.Ns mainGlobals mg → mg d.name = some (.ref fa) →
      ∃ fd : FuncData, (∀ (s : Shared) (u : Value), BindsTo s fd ⟨[u], []⟩ [(x, u)]) ∧
        ∀ base : Heap, (K w.params).In base → base.Ns mainGlobals mg → FnG l.prog w (K w.params) mg base (CX w) k fa fd [x] (sp w))
    (hsp : ∀ (w : World) (H : Hp) (a : Addr) (ns : List Int), ns.length ≤ n → Only H → SqL (K w.params) H a (ns.map V.int) → sp w [.ref a] H (fun v _ => v = .bl true) fun _ _ _ => False)
    (hCX : ∀ (w : World) (H : Hp) (s : Shared) (e : Value) (s' : Shared), CX w [] H s (fun _ _ _ => False) e s' → False) :
    PySem.W.WalkO q loose XP YP l.row.toRowW d [] (fun f vs => PySem.call f vs) := by
  refine Att.attach_call hn hdf fun w s₀ s₁ mg mb fa o pm cd doc a vs ns G Y ho hd hcd hmg hobj hints hlen hg => ?_
  have KX := hY w _ Y
  obtain ⟨fd, hb, hF⟩ := F w mg fa _ KX G.T.g hmg
  exact law_callG KX G.T.g G.T.b G.T.builtins G.T.nolimit hg hobj hints (Nat.le_trans hlen hn2) hr hF hb (fun H hO hS => hsp w H a ns hlen hO hS) fun H e s' => hCX w H s₁ e s'
end XL
set_option Elab.async false
set_option linter.all false
set_option maxRecDepth 100000
set_option maxHeartbeats 4000000
/-! XStar: defs with a star parameter, called with plain arguments. -/
namespace XL
open PySem PySem.Spec PyProof.Rows L2
/-! ### list.extend of a tuple -/
theorem ext_tup (l : Addr) (items : Array Value) (n : Nat) (b : Addr) (items2 : Array Value) (n2 : Nat) (dc : Option Addr) (sl : Array (Option Value)) (hs0 : ¬(!items.isEmpty && Builtin.List.listTooLong (items.size + items2.size)) = true) (hs1 : items.size ≤ sizeLine) (hs2 : items.size + items2.size ≤ sizeLine + 1) :
    Meets (Builtin.«list.extend» ⟨[.ref l, .ref b], []⟩) (fun _ R s => s.heap.get? l = some { cls := .type "list", dict := none, data := .seq items n, slots := #[] } ∧ s.heap.get? b = some { cls := .type "tuple", dict := dc, data := .seq items2 n2, slots := sl } ∧ R (.ok (.ret Value.none)) { s with heap := s.heap.update l (Obj.mapSeq fun x => x ++ items2), toks := s.toks }) :=
  .of_wp fun prog w A R s h => by
    obtain ⟨hp, g, d, tk, os⟩ := s
    obtain ⟨hl, hb, h⟩ := h
    have f1 := AutoSeq1.idx_int; have f2 := AutoSeq1.sub_tuple_tuple; have f3 := AutoSeq1.sub_list_list; have f4 := AutoSeq1.sub_tuple_list; have f5 := AutoSeq1.sub_list_tuple
    have hz' : (items ++ items2).size ≤ sizeLine + 1 := by rw [Array.size_append]; exact hs2
    wp_walk using (wpAny_updateSeq hl rfl (hz := hs1) (_hz' := hz')), wpAny_loadPart' hl, wpAny_loadPart' hb
    exact ⟨_, rfl, h⟩
def rExtT (K : PySem.W.Frag) : V → List V → Hp → VK → Prop := fun x vs H Q => ∃ l b xs zs, x = .ref l ∧ vs = [.ref b] ∧ H l = some (.lst xs) ∧ SqT K H b zs ∧ xs.length + zs.length ≤ sizeLine ∧ Q .non (upd H l (.lst (xs ++ zs)))
theorem mt_extT {X : Cx} (K : PySem.W.Frag) (hK : X.K = K := by rfl) : MtM X "list.extend" (rExtT K) := by
  subst hK
  intro pins s σ H x vs v us Q I rx rv h
  obtain ⟨l, b, xs, zs, rfl, rfl, hH, hB, hz, q⟩ := h
  cases rx
  obtain ⟨u, rfl, ru⟩ := rv.one
  cases ru
  obtain ⟨z, its, n, r, hl, e⟩ := I.lstM hH
  obtain ⟨its2, r2, ⟨o2, e2, c2, n2, d2⟩, z2⟩ := I.tuple hB
  have hl2 := r2.length
  obtain ⟨oc, od, odt, osl⟩ := o2
  simp only at c2 d2
  subst c2 d2
  have hsz : its.toArray.size + its2.toArray.size ≤ sizeLine := by rw [List.size_toArray, List.size_toArray]; omega
  have hlong : ¬ (!its.toArray.isEmpty && Builtin.List.listTooLong (its.toArray.size + its2.toArray.size)) = true := by
    rw [notLongL hsz, Bool.and_false]
    exact Bool.false_ne_true
  refine call_meets F.slot_list_extend ⟨_, e, rfl⟩ F.entry_list_extend (F.args_list_extend_2 _ _)
    (ext_tup l its.toArray n b its2.toArray n2 od osl hlong (by rw [List.size_toArray]; omega) (by omega)) ⟨e, e2, ?_⟩
  refine ⟨.non, _, I.lset (its' := its ++ its2) hH e (by simp) (r.append r2) ?_, rfl, q⟩
  rw [List.length_append]
  omega
/-- what a def with a star parameter binds -/
def BindsS (fd : FuncData) (ps : List Str) (pv : Str) : Prop := ∀ us rest : List Value, us.length = ps.length → bindArgs fd ⟨us ++ rest, []⟩ = (newTuple rest >>= fun t => pure (ps.zip us ++ [(pv, t)]))
/-- the promise of a def with a star parameter, from that of its body -/
def spS (n : Nat) (sp : Sp) : Sp := fun vs H Q E => ∃ ws rest, vs = ws ++ rest ∧ ws.length = n ∧ rest.length ≤ sizeLine ∧ ∀ p, H p = Option.none → sp (ws ++ [V.ref p]) (upd H p (.tup rest)) Q E
section
variable {P : Program} {w : World} {K : PySem.W.Frag} {mg : Str → Option Value} {base : Heap}
theorem okS {x qual : Str} {st : Stmt} {f : Addr} {fd : FuncData} {N ps : List Str} {pv : Str} {k : Nat} {sp : Sp} (F : Fun K x qual st f fd) (S : FnScope N (ps ++ [pv]) (defScope st)) (hb : BindsS fd ps pv)
    (hbody : ∀ (cdv : Value) (A : Around) (outer : List Env) (s : Shared) (H : Hp) (vs : List V) (Q : VK) (E : XK), Room k (A.deeper (envOfC qual (defScope st) s.heap.objs.size f cdv)) → sp vs H Q E →
      ∃ t, PSs (cxOf CX0 P w K mg base N qual (defScope st) f cdv A outer s H E).nox (defBody st) t ∧ t { nx := fun _ H' => Q .non H', rt := Q } (L2.start N vs) H) : FnR P w K mg base CX0 (k + 1) f (spS ps.length sp) := by
  obtain ⟨oc, od, kV, doc, pm, an, cdv, ct, osl, rfl, lk, hcd⟩ := F.ex
  refine StX.fn_star (pv := pv) (ps := ps) lk hcd S StX.cxUp_none hb fun A outer s H vs Q E hr hsp => ?_
  obtain ⟨t, h, q⟩ := hbody cdv A outer s H vs Q E hr hsp
  exact ⟨t, h.nox, q⟩
end
section
variable {X : Cx} {CX : CXT} {k : Nat} {f : Addr} {sp : Sp} {E : XK} {x : Str} {p pos : Pos} {e : Expr} {es : List Expr} {t : TA}
/-- x(e, ..) by a positional promise -/
theorem pe_callP (F : FnR X.prog X.w X.K X.mg X.base CX k f sp) (hr : Room k X.A) (hgl : Gl X x) (hm : X.mg x = some (.ref f)) (hk : PySem.W.keepIn X.K (.ref f) = true) (hx : Passes CX X E)
    (ha : PA X (e :: es) t) (hdb : (x == ("__debug__" : Str)) = false := by decide) (he : starEach (e :: es) X.env = (false, eval e X.env) :: starEach es X.env := by rfl) (hpl : (backTo pos (starEach es X.env)).any (·.1) = false := by rfl) :
    PE X (.Call (.Name x p) (e :: es) [] pos) (fun σ H Q => t σ H fun vs H1 => sp vs H1 Q E) := by
  refine ⟨fun pins s σ H Q I h => ?_⟩
  refine wpAny_Call_Name_kw (ld_glob I hgl hm ?_ hdb)
  refine PySem.W.callWith_K (h₀ := X.base) I.ok.mod.kin hk (thn (ha.run pos pins s σ H _ I h) fun us s1 ⟨vs, H1, I1, r, q⟩ => ⟨I1.kIn, ?_⟩) he hpl
  exact wpAny_call (run_fnR F hr hx I1 r q)
/-- x() -/
theorem pe_callP0 (F : FnR X.prog X.w X.K X.mg X.base CX k f sp) (hr : Room k X.A) (hgl : Gl X x) (hm : X.mg x = some (.ref f)) (hk : PySem.W.keepIn X.K (.ref f) = true) (hx : Passes CX X E) (hdb : (x == ("__debug__" : Str)) = false := by decide) :
    PE X (.Call (.Name x p) [] [] pos) (fun _ H Q => sp [] H Q E) := by
  refine ⟨fun pins s σ H Q I h => ?_⟩
  refine wpAny_Call_Name_kw (ld_glob I hgl hm ?_ hdb)
  exact PySem.W.callWith_K0 I.kIn hk (wpAny_call (run_fnR (us := []) F hr hx I .nil h))
end
section
variable {B : List Value → Sem (List (Str × Value))} {p1 p2 p3 p4 pv : Str}
theorem bindS0 (h0 : B [] = (newTuple [] >>= fun t => pure [(pv, t)])) (h1 : ∀ r rs, B (r :: rs) = (newTuple (r :: rs) >>= fun t => pure [(pv, t)])) :
    ∀ us rest : List Value, us.length = ([] : List Str).length → B (us ++ rest) = (newTuple rest >>= fun t => pure (([] : List Str).zip us ++ [(pv, t)]))
  | [], [], _ => h0
  | [], r :: rs, _ => h1 r rs
theorem bindS1 (h0 : ∀ a, B [a] = (newTuple [] >>= fun t => pure [(p1, a), (pv, t)])) (h1 : ∀ a r rs, B (a :: r :: rs) = (newTuple (r :: rs) >>= fun t => pure [(p1, a), (pv, t)])) :
    ∀ us rest : List Value, us.length = [p1].length → B (us ++ rest) = (newTuple rest >>= fun t => pure ([p1].zip us ++ [(pv, t)]))
  | [a], [], _ => h0 a
  | [a], r :: rs, _ => h1 a r rs
theorem bindS4 (h0 : ∀ a b c d, B [a, b, c, d] = (newTuple [] >>= fun t => pure [(p1, a), (p2, b), (p3, c), (p4, d), (pv, t)])) (h1 : ∀ a b c d r rs, B (a :: b :: c :: d :: r :: rs) = (newTuple (r :: rs) >>= fun t => pure [(p1, a), (p2, b), (p3, c), (p4, d), (pv, t)])) :
    ∀ us rest : List Value, us.length = [p1, p2, p3, p4].length → B (us ++ rest) = (newTuple rest >>= fun t => pure ([p1, p2, p3, p4].zip us ++ [(pv, t)]))
  | [a, b, c, d], [], _ => h0 a b c d
  | [a, b, c, d], r :: rs, _ => h1 a b c d r rs
end
end XL
set_option Elab.async false
set_option linter.all false
set_option maxRecDepth 100000
set_option maxHeartbeats 4000000
/-! XTree: t[::-1] of a tuple; == of data of more levels; objects whose own __iter__ hands on iter(l), l a list. -/
namespace XL
open PySem PySem.Spec PyProof.Rows L2
section
variable {prog : Program} {w : World} {A : Around} {E : Value → Shared → Prop} {s : Shared}
theorem applied_rev {sl : Addr} {t : Tok} {n : Nat} {Q : Int × Int × Nat → Shared → Prop} (hs : s.heap.IsSliceOf sl .none .none (.int (-1) t)) (h : Q ((n : Int) - 1, -1, n) s) :
    wpAny (model prog w) A (Builtin.Slice.sliceApplied (.ref sl) (pure (n : Int))) Q E s := by
  obtain ⟨os, hos, hcs, hds⟩ := id hs
  unfold Builtin.Slice.sliceApplied Builtin.Slice.sliceFields
  refine wpAny_bind (wpAny_bind (wpAny_field hos hds (x := .none) rfl (wpAny_bind (wpAny_field hos hds (x := .none) rfl (wpAny_bind (wpAny_field hos hds (x := .int (-1) t) rfl (wpAny_pure ?_)))))))
  refine wpAny_bind (HT.slicePart_ (.int (-1) t) ?_)
  show wpAny _ _ (if ((-1 : Int) == 0) = true then _ else _) _ _ s
  rw [if_neg (by decide)]
  refine wpAny_bind (HT.slicePart_ .none (wpAny_bind (HT.slicePart_ .none (wpAny_bind (wpAny_pure ?_)))))
  show wpAny _ _ (pure ((n : Int) - 1, (-1 : Int), Builtin.Slice.slicePlaces ((n : Int) - 1) (-1) (-1))) _ _ s
  have e : Builtin.Slice.slicePlaces ((n : Int) - 1) (-1) (-1) = n := by
    unfold Builtin.Slice.slicePlaces
    have h1 : ¬ ((-1 : Int) > 0) := by decide
    simp only [h1, if_false]
    split
    · rw [show (- -1 : Int) = 1 by decide, Int.ediv_one]
      omega
    · omega
  rw [e]
  exact wpAny_pure h
theorem fm_congr {α β : Type} {f g : α → Option β} : ∀ {l : List α}, (∀ x ∈ l, f x = g x) → l.filterMap f = l.filterMap g
  | [], _ => rfl
  | x :: l, h => by
    rw [List.filterMap_cons, List.filterMap_cons, h x List.mem_cons_self, fm_congr (l := l) fun y hy => h y (List.mem_cons_of_mem _ hy)]
theorem pick_rev (xs : Array Value) : ((List.range xs.size).filterMap fun (k : Nat) => xs[(((xs.size : Int) - 1) + (k : Int) * (-1)).toNat]?).toArray = xs.toList.reverse.toArray := by
  have z := PySem.W.krv_pick xs
  rw [← z]
  unfold slicePick
  rw [PySem.W.krv_bounds]
  show _ = ((sliceRange ((xs.size : Int) - 1) (-1) (-1)).filterMap (xs[·]?)).toArray
  rw [PySem.W.krv_sliceRange, List.filterMap_map]
  congr 1
  refine fm_congr fun k hk => ?_
  have := List.mem_range.mp hk
  have e : (((xs.size : Int) - 1) + (k : Int) * (-1)).toNat = xs.size - 1 - k := by omega
  show xs[_]? = xs[xs.size - 1 - k]?
  rw [e]
theorem getItem_tuple_rev {t sl : Addr} {tk : Tok} {items : Array Value} {Q : Value → Shared → Prop} (ht : IsTup s.heap t items) (hs : s.heap.IsSliceOf sl .none .none (.int (-1) tk))
    (h : Q (.ref s.heap.objs.size) { s with heap := s.heap.push { cls := .type "tuple", data := .seq items.toList.reverse.toArray } }) (hsz : items.size ≤ sizeLine) : wpAny (model prog w) A (getItem (.ref t) (.ref sl)) Q E s := by
  have htake : sizeOk (.seq items.toList.reverse.toArray) := by
    show items.toList.reverse.toArray.size ≤ sizeLine
    rw [List.size_toArray, List.length_reverse, Array.length_toList]
    exact hsz
  obtain ⟨os, hos, hcs, hds⟩ := id hs
  have hTs : s.TypeIs (.ref sl) "slice" := ⟨os, hos, hcs⟩
  unfold getItem
  try with_reducible refine wpAny_holding ?_
  first | refine wpAny_bind (wpAny_pure ?_) | skip
  refine wpAny_bind (wpAny_sequenceKey ht.typeIs (by decide) ?_)
  refine wpAny_bind (wpAny_callSpecial?_slot (name := Str.ofString "__getitem__") ht.typeIs PyProof.Rows.slot_tuple_getitem
    (wpAny_call_entry PyProof.Rows.slot_tuple_getitem ht.typeIs entry_tuple_getitem ?_ (args_tuple_getitem _ _)))
  show wpAny _ _ (Builtin.Tuple.tupleItemsOf (.ref t) >>= _) _ _ s
  refine wpAny_bind (tupleItemsOf_ ht ?_)
  refine wpAny_bind (wpAny_typeOf hTs ?_)
  rw [if_pos (by decide)]
  refine wpAny_bind (applied_rev hs ?_)
  have hno : ¬ (((items.size : Int) - 1 == 0 && (-1 : Int) == 1 && items.size == items.size) = true) := by
    intro q
    rw [Bool.and_eq_true, Bool.and_eq_true] at q
    exact absurd q.1.2 (by decide)
  show wpAny _ _ (if ((items.size : Int) - 1 == 0 && (-1 : Int) == 1 && items.size == items.size) = true then _ else _) _ _ s
  rw [if_neg hno, pick_rev]
  first
    | exact wpAny_bind (m := Builtin.Tuple.tupleExact _) (wpAny_newObj_type (wpAny_pure ⟨_, rfl, wpAny_pure h⟩) htake)
    | exact wpAny_bind (m := Builtin.Tuple.tupleExact _) (wpAny_newObj_type (wpAny_bind (wpAny_pure (wpAny_pure ⟨_, rfl, wpAny_pure h⟩))) htake)
    | exact wpAny_bind (wpAny_bind (m := Builtin.Tuple.tupleExact _) (wpAny_newObj_type (wpAny_pure (wpAny_pure ⟨_, rfl, wpAny_pure h⟩)) htake))
    | exact wpAny_bind (wpAny_bind (m := Builtin.Tuple.tupleExact _) (wpAny_newObj_type (wpAny_pure ⟨_, rfl, wpAny_pure h⟩) htake))
end
def tRevT (K : PySem.W.Frag) (te : TE) : TE := fun σ H Q => te σ H fun x H1 => ∃ a xs, x = .ref a ∧ SqT K H1 a xs ∧ ∀ p, H1 p = none → Q (.ref p) (upd H1 p (.tup xs.reverse))
theorem pe_revT {X : Cx} {e m : Expr} {te : TE} {p2 pos : Pos} (he : PE X e te) (hm : PE X m (tC (.int (-1)))) : PE X (.Subscript e (.Slice none none (some m) p2) pos) (tRevT X.K te) := by
  refine ⟨fun pins s σ H Q I h => ?_⟩
  refine Subscript_ (thn (he.run pins s σ H _ I h) fun v s1 ⟨x, H1, I1, r1, q1⟩ => ?_)
  refine wpAny_Slice (wpAny_evalPart_none (wpAny_evalPart_none (wpAny_evalPart_some (thn (hm.run pins s1 σ H1 (fun y H2 => y = .int (-1) ∧ H2 = H1) I1 ⟨rfl, rfl⟩) fun vm s3 ⟨y, H3, I3, r3, ey, eH⟩ => ?_))))
  subst ey eH
  obtain ⟨t, rfl⟩ := r3
  obtain ⟨a, xs, rfl, hx, q⟩ := q1
  cases r1
  have I4 : L2.Inv X pins σ H3 { s3 with heap := s3.heap.push { cls := .type "slice", data := .fields #[.none, .none, .int (-1) t] } } := I3.kept (t' := s3.toks) fun b ob q => Heap.get?_push_of_some _ q
  obtain ⟨its, r, ht, hz⟩ := I4.tuple hx
  have hlen := r.length
  show wpAny (model X.prog X.w) X.A (subscriptTail e (.Slice none none (some m) p2) (.ref a) (.ref s3.heap.objs.size)) (EP X pins σ Q) X.xe { s3 with heap := s3.heap.push { cls := .type "slice", data := .fields #[.none, .none, .int (-1) t] } }
  refine tail_any (ops := [.ref a, .ref s3.heap.objs.size]) ht.typeIs PyProof.Rows.slot_tuple_getitem.lookup ?_ (by with_unfolding_all rfl)
  refine getItem_tuple_rev ht (Heap.IsSliceOf.new ..) ?_ (by rw [List.size_toArray] <;> omega)
  refine ⟨.ref _, _, I4.laid (t' := s3.toks) (o := .tup xs.reverse) (fun b ob q => Heap.get?_push_of_some _ q) (Nat.le_refl _) ?_, rfl, q _ (I4.hok.fresh (Nat.le_refl _))⟩
  exact ⟨by rw [List.length_reverse]; exact hz, its.reverse, r.reverse, ⟨_, Heap.get?_push_size _ rfl, rfl, _, rfl⟩⟩
theorem pe_revTK {X : Cx} {e m : Expr} {te : TE} {p2 pos : Pos} (K : PySem.W.Frag) (he : PE X e te) (hm : PE X m (tC (.int (-1)))) (h : X.K = K := by rfl) : PE X (.Subscript e (.Slice none none (some m) p2) pos) (tRevT K te) := h ▸ pe_revT he hm
/-! ### == of data of up to 190 levels -/
def rEqL (K : PySem.W.Frag) : R2 := fun x y H Q => ∃ d e, Dp K H x d ∧ Dp K H y e ∧ d.canLay0 = true ∧ e.canLay0 = true ∧ d.depth ≤ 190 ∧ Q (.bl (PyData.eqv d e)) H
theorem op_eqL {X : Cx} (K : PySem.W.Frag) (hu : X.A.units + 190 < cLine) (hK : X.K = K := by rfl) : OpR X (compareOp .Eq) (rEqL K) := by
  subst hK
  intro pins s σ H x y v u Q I rx ry h
  obtain ⟨d, e, hd, he, sd, se, dp, q⟩ := h
  obtain ⟨as, r1⟩ := Dp.reads I d x v hd rx
  obtain ⟨bs, r2⟩ := Dp.reads I e y u he ry
  exact SeqAt.compareEq_reads r1 r2 sd se (by have := Nat.min_le_left d.depth e.depth; omega) ⟨.bl _, H, I, rfl, q⟩
/-! ### a promise that knows how large the heap was -/
structure FnY (P : Program) (w : World) (K : PySem.W.Frag) (mg : Str → Option Value) (base : Heap) (CX : CXT) (k : Nat) (f : Addr) (fd : FuncData) (ps : List Str) (sp : Nat → Sp) : Prop where
  len : ∀ n vs H Q E, sp n vs H Q E → vs.length = ps.length
  run : ∀ (A : Around) (outer : List Env) (s : Shared) (H : Hp) (args : Args) (us : List Value) (vs : List V) (Q : VK) (E : XK), Room k A → Env0 P w K mg base A outer s H → BindsTo s fd args (ps.zip us) → Vals vs us → sp s.heap.objs.size vs H Q E →
    codeAny (model P w) A (.call (.ref f) args) (CR CX outer P w H s Q E) s
section
variable {P : Program} {w : World} {K : PySem.W.Frag} {mg : Str → Option Value} {base : Heap} {CX : CXT}
theorem fnY_of {x qual : Str} {st : Stmt} {f : Addr} {fd : FuncData} {N ps : List Str} {k : Nat} {sp : Nat → Sp} (F : Fun K x qual st f fd) (S : FnScope N ps (defScope st)) (len : ∀ n vs H Q E, sp n vs H Q E → vs.length = ps.length)
    (hbody : ∀ (cdv : Value) (A : Around) (outer : List Env) (s : Shared) (H : Hp) (vs : List V) (Q : VK) (E : XK), Room k (A.deeper (envOfC qual (defScope st) s.heap.objs.size f cdv)) → sp s.heap.objs.size vs H Q E →
      ∃ t, PSs (cxOf CX P w K mg base N qual (defScope st) f cdv A outer s H E) (defBody st) t ∧ t { nx := fun _ H' => Q .non H', rt := Q } (L2.start N vs) H) : FnY P w K mg base CX (k + 1) f fd ps sp := by
  obtain ⟨oc, od, kV, doc, pm, an, cdv, ct, osl, rfl, lk, hcd⟩ := F.ex
  refine ⟨len, fun A outer s H args us vs Q E hr e0 hb r hsp => ?_⟩
  have hl := len _ _ _ _ _ hsp
  have KX : K.In s.heap := e0.mod.kin.keeps fun b o e => (e0.bs b o e).1
  have lim : s.heap.NoLimit := e0.mod.nolimit.keeps fun b o e => (e0.bs b o e).1
  have hkind : ∀ y ∈ ps.zip us, (defScope st).names.lookup y.1 = some .local ∨ ((defScope st).names.lookup y.1 = some .cell ∧ ((cellsFrom (s.heap.objs.size + 1) (defScope st).names []).lookup y.1).isSome = true) := fun ⟨n, v⟩ hy => by
    rcases S.par n (List.of_mem_zip hy).1 with q | q
    · exact .inl q
    · exact .inr ⟨q, PySem.W.cellsFrom_some _ _ _ (.inl q)⟩
  refine codeAny_call_function hr.depth (KX _ _ lk) rfl S.co S.gen rfl (PySem.W.codeRec_of KX hcd) (hb _ _ _ _ ?_)
  refine wpAny_newFunctionEnv_cells S.kind hkind fun env he s1 x => ?_
  subst he
  refine ⟨lim.keeps x.toInCall.keep, codeAny_func ?_⟩
  obtain ⟨t, ht, hq⟩ := hbody cdv A outer s H vs Q E (hr.deeper _) hsp
  have I : Inv (cxOf CX P w K mg base N qual (defScope st) f cdv A outer s H E) [] (L2.start N vs) H s1 := inv_start S hr.hd e0 hl r x
  refine wpAny_mono (ht.run [] s1 (L2.start N vs) H _ I hq) (fun fl s' hs => ?_) fun e s' hs => hs
  cases fl with
  | ret u =>
    obtain ⟨v, σ', H', J, rv, q⟩ := hs
    exact ⟨v, H', J.os, J.bare, J.base, J.hok, rv, q⟩
  | next =>
    obtain ⟨σ', H', J, q⟩ := hs
    exact ⟨V.non, H', J.os, J.bare, J.base, J.hok, rfl, q⟩
  | brk =>
    obtain ⟨_, _, _, q⟩ := hs
    exact False.elim q
  | cont =>
    obtain ⟨_, _, _, q⟩ := hs
    exact False.elim q
theorem okY {x qual : Str} {st : Stmt} {f : Addr} {fd : FuncData} {N ps : List Str} {k : Nat} {sp : Nat → Sp} (F : Fun K x qual st f fd) (S : FnScope N ps (defScope st)) (len : ∀ n vs H Q E, sp n vs H Q E → vs.length = ps.length)
    (hbody : ∀ (cdv : Value) (A : Around) (outer : List Env) (s : Shared) (H : Hp) (vs : List V) (Q : VK) (E : XK), Room k (A.deeper (envOfC qual (defScope st) s.heap.objs.size f cdv)) → sp s.heap.objs.size vs H Q E →
      ∃ t, PSs (cxOf CX0 P w K mg base N qual (defScope st) f cdv A outer s H E).nox (defBody st) t ∧ t { nx := fun _ H' => Q .non H', rt := Q } (L2.start N vs) H) : FnY P w K mg base CX0 (k + 1) f fd ps sp :=
  fnY_of F S len fun cdv A outer s H vs Q E hr hsp => let ⟨t, h, q⟩ := hbody cdv A outer s H vs Q E hr hsp; ⟨t, h.nox, q⟩
end
/-! ### for x in o, o an object whose own __iter__ hands on iter(l) -/
theorem dropH_upd {H : Hp} {a : Addr} {o : HO} (h : H a = none) : ItX.dropH (upd H a o) a = H := by
  funext b
  by_cases e : b = a
  · rw [e, ItX.dropH_same, h]
  · rw [ItX.dropH_ne e, upd_ne e]
def iOwnL (K : PySem.W.Frag) (C : Addr) (sp : Nat → Sp) (E : XK) (te : TE) : TI := fun σ H R => te σ H fun x H1 => ∃ a dx fs, x = .ref a ∧ H1 a = some (.ins C dx fs) ∧
  ∀ n, sp n [.ref a] H1 (fun v H2 => ∃ (it l : Addr), v = .ref it ∧ n ≤ it ∧ H2 it = some (ItO l it 0) ∧ R (Itl K l) (ItX.dropH H2 it)) E
theorem pi_ownL {X : Cx} {CX : CXT} {C f : Addr} {fd : FuncData} {ps : List Str} {sp : Nat → Sp} {E : XK} {n : Nat} {tg e : Expr} {te : TE} (he : PE X e te) (F : FnY X.prog X.w X.K X.mg X.base CX n f fd ps sp)
    (hs : PySem.W.findIn X.K (.ref C) "__iter__" = some (some (.ref f))) (hfn : PySem.W.isFn X.K (.ref f) = true) (hb : Binds X.K fd ps []) (hx : Passes CX X E) (hr : Room n X.A) : PI X tg e (iOwnL X.K C sp E te) := by
  refine ⟨fun pins s σ H R I h => ?_⟩
  refine thn (he.run pins s σ H _ I h) fun u s1 ⟨x, H1, I1, r1, a, dx, fs, ex, ha, hsp0⟩ => ?_
  subst ex
  cases r1
  have hsp := hsp0 s1.heap.objs.size
  obtain ⟨mA, J, _⟩ := ins_get I1.hok ha
  obtain ⟨od, J, _⟩ := J.look
  obtain ⟨m0, hF⟩ := I1.fr
  refine PySem.W.owit_iter hF I1.ok.mod.kin J hs hfn ?_
  have hl := F.len _ _ _ _ _ hsp
  refine wpAny_call (codeAny_mono (F.run X.A X.stack s1 H1 ⟨[.ref a], []⟩ [.ref a] [.ref a] _ E hr I1.env0 (by
    have := hb s1 [.ref a] I1.kIn (by simpa using hl)
    simpa using this) (.cons rfl .nil) hsp) fun r s' hq => ?_)
  cases r with
  | error e => exact hx pins σ _ _ e s' I1 hq
  | ok fl =>
    cases fl with
    | next => exact False.elim hq
    | brk => exact False.elim hq
    | cont => exact False.elim hq
    | ret u =>
      obtain ⟨v, H', I', rv, it, l, ev, young, hit, hR⟩ := I1.after hq
      subst ev
      cases rv
      have eo := itO_get I' hit
      have st : s'.heap.IsListIter it l 0 := ⟨_, eo, rfl, rfl⟩
      show wpAny _ _ (specialOf (.ref it) "__next__") _ _ _
      refine wpAny_specialOf st.typeIs slot_listiter_next.lookup ?_
      have hi' := hit
      unfold ItO at hi'
      refine ⟨it, [it], _, _, ItX.dropH H' it, rfl, ItX.inv_drop I' hi', turn_list l it, st, fun b hb => ?_, hR⟩
      have e : b = it := by simpa using hb
      rw [e]
      exact ItX.inv_fp I' hit (Nat.le_trans I1.sz young)
theorem pi_ownLK {X : Cx} {CX : CXT} {C f : Addr} {fd : FuncData} {ps : List Str} {sp : Nat → Sp} {E : XK} {n : Nat} {tg e : Expr} {te : TE} (K : PySem.W.Frag) (he : PE X e te) (F : FnY X.prog X.w X.K X.mg X.base CX n f fd ps sp)
    (hs : PySem.W.findIn X.K (.ref C) "__iter__" = some (some (.ref f))) (hfn : PySem.W.isFn X.K (.ref f) = true) (hb : Binds X.K fd ps []) (hx : Passes CX X E) (hr : Room n X.A) (h : X.K = K := by rfl) : PI X tg e (iOwnL K C sp E te) := h ▸ pi_ownL he F hs hfn hb hx hr
/-! ### list(o) -/
theorem next_lst_end {P : Program} {w : World} {A : Around} {E : Value → Shared → Prop} {s : Shared} {it t : Addr} {i : Nat} {items : Array Value} {Q : Option Value → Shared → Prop} (hh : A.handled = none)
    (hit : s.heap.IsListIter it t i) (ht : s.heap.IsList t items) (hx : items[i]? = none)
    (hQ : ∀ h', Heap.ExtBut it s.heap h' → (∃ o, h'.get? it = some o) → Q none { s with heap := h' }) : wpAny (model P w) A (pyNext (.ref it)) Q E s := by
  obtain ⟨o, ho, hc, hd⟩ := id hit
  obtain ⟨ol, hol, _, nl, hdl⟩ := ht
  unfold pyNext
  refine wpAny_bind (wpAny_attempt (wpAny_callSpecial?_slot (name := Str.ofString "__next__") hit.typeIs slot_listiter_next (wpAny_call_entry slot_listiter_next hit.typeIs entry_listiter_next ?_ (args_listiter_next _))))
  show wpAny _ _ (field (.ref it) 0 >>= _) _ _ s
  refine wpAny_bind (wpAny_field ho hd (x := .ref t) rfl (PySem.W.KFB.if_not rfl ?_))
  show wpAny _ _ (field (.ref it) 1 >>= _) _ _ s
  refine wpAny_bind (wpAny_field ho hd (x := .int i 0) rfl ?_)
  show wpAny _ _ (seqItems? (.ref t) >>= _) _ _ s
  refine wpAny_bind (wpAny_seqItems hol hdl ?_)
  simp only [Int.toNat_natCast, hx]
  refine wpAny_bind (wpAny_rule (wpAny_bind (wpAny_setField ho hd (by simp) ?_)))
  show wpAny _ _ (newExc (.type "StopIteration") [] >>= _) _ _ _
  refine wpAny_bind ?_
  simp only [newExc, newTuple]
  refine wpAny_bind (wpAny_newObj_type ?_ (by size_fits))
  refine wpAny_bind (m := firstArgMember _ _) (wpAny_of_eq (a := Value.none) (by first | rfl | (simp only [firstArgMember]; rfl)) ?_)
  refine wpAny_newObj_type ?_ (by size_fits)
  simp only [raiseNew]
  refine wpAny_bind (wpAny_handled ?_)
  first | rw [show A.in1.handled = none from hh] | rw [hh]
  refine wpAny_bind (wpAny_pure (wpAny_throw ?_))
  refine wpAny_bind (wpAny_isInstance (T := "StopIteration") (b := true) ⟨_, Heap.get?_push_size _ rfl, rfl⟩ isSubtype_stop ?_)
  exact wpAny_pure (hQ _ (((Heap.SameBut.update ..).extBut.push _).push _) ⟨_, Heap.get?_push_of_some _ (Heap.get?_push_of_some _ (Heap.get?_update_self _ ho (Obj.isFreed_of_fields (Obj.data_mapFields hd _))))⟩)
def ItL (l it : Addr) (i : Nat) : HO := .ext fun h => h.IsListIter it l i
theorem itL_ok {P : Program} {w : World} {H : Hp} {h : Heap} {t it : Addr} {i : Nat} (e : h.IsListIter it t i) : ObjOk P w H h it (ItL t it i) := by
  obtain ⟨o, ho, r⟩ := id e
  exact ⟨e, ⟨_, ho⟩, fun g1 g2 q k => q.at fun o e => k o e⟩
section
variable {X : Cx} {pins : List (Addr × Obj)} {σ : L2.St} {H : Hp} {s : Shared}
theorem itL_get {t it : Addr} {i : Nat} (I : Inv X pins σ H s) (e : H it = some (ItL t it i)) : s.heap.IsListIter it t i := (I.hok it _ e).1
/-- the loop that fills the list at q -/
theorem loop_lst {A1 : Around} {Rs : Result → Shared → Prop} {q it t : Addr} {zs : List V} (hd : A1.in1.handled = none) (hne : q ≠ it) :
    ∀ (k i : Nat) (H : Hp) (s : Shared), zs.length - i = k → i ≤ zs.length → Inv X pins σ H s → H it = some (ItL t it i) → it ≠ t → q ≠ t → H t = some (.lst zs) → H q = some (.lst (zs.take i)) →
      (∀ s', Inv X pins σ (upd (upd H it (ItTE it)) q (.lst zs)) s' → Rs (.ok (.ret .none)) s') → codeAny (model X.prog X.w) A1 (.builtin "list.extend.loop" ⟨[.ref q, .ref it, .none], []⟩) Rs s := by
  intro k
  induction k with
  | zero =>
    intro i H s hk hi I hit nit nqt ht hq hR
    obtain ⟨its, rv, pl, hz⟩ := I.list (SqL.of ht)
    have hin : zs.length = its.length := rv.length
    have mu : Mut (H it) := by rw [hit]; exact True.intro
    refine codeAny_builtin PySem.F.entry_extend_loop ?_
    rw [Around.under_plainId PySem.F.plain_extend_loop _]
    show wpAny _ A1.in1 (pyNext (.ref it) >>= _) _ _ s
    have ei : i = zs.length := by omega
    refine wpAny_bind (next_lst_end hd (itL_get I hit) pl.isList (by rw [List.getElem?_toArray]; exact List.getElem?_eq_none (by omega)) fun h' eb ⟨o, ho⟩ => wpAny_pure ?_)
    have I2 : Inv X pins σ (upd H it (ItTE it)) { s with heap := h' } := I.write (x := it) (e := it) (t' := s.toks) mu (.inl rfl) (fun b o nb z => eb b o nb z) ⟨_, ho⟩ (itTE_ok ho)
    refine hR _ ?_
    have e : upd (upd H it (ItTE it)) q (.lst zs) = upd H it (ItTE it) := by
      funext b
      by_cases hb : b = q
      · rw [hb, upd_same, upd_ne hne, hq, ei, List.take_length]
      · rw [upd_ne hb]
    rw [e]
    exact I2
  | succ k ih =>
    intro i H s hk hi I hit nit nqt ht hq hR
    obtain ⟨its, rv, pl, hz⟩ := I.list (SqL.of ht)
    have hin : zs.length = its.length := rv.length
    have mu : Mut (H it) := by rw [hit]; exact True.intro
    have hlt : i < zs.length := by omega
    have hzi := List.getElem?_eq_getElem hlt
    obtain ⟨u, hu, ru⟩ := rv.get hzi
    refine codeAny_builtin PySem.F.entry_extend_loop ?_
    rw [Around.under_plainId PySem.F.plain_extend_loop _]
    show wpAny _ A1.in1 (pyNext (.ref it) >>= _) _ _ s
    refine wpAny_bind (wpAny_pyNext_list_item (itL_get I hit) pl.isList (by rw [List.getElem?_toArray]; exact hu) fun h' hit' sb => ?_)
    obtain ⟨o, ho, _⟩ := id hit'
    have I2 : Inv X pins σ (upd H it (ItL t it (i + 1))) { s with heap := h' } := I.write (x := it) (e := it) (t' := s.toks) mu (.inl rfl) (fun b o nb z => (sb.2 b nb).trans z) ⟨_, ho⟩ (itL_ok hit')
    have hq2 : upd H it (ItL t it (i + 1)) q = some (.lst (zs.take i)) := by rw [upd_ne hne]; exact hq
    show wpAny _ A1.in1 (updateSeq q (·.push u) >>= _) _ _ _
    obtain ⟨z, its2, c, r2, hl, e⟩ := I2.lstM hq2
    have l2 : its2.length ≤ 16777215 := by
      rw [← hl, List.length_take]
      have := hz
      rw [sizeLine_eq] at this
      omega
    refine wpAny_bind (wpAny_updateSeq e rfl (wpAny_pure ⟨plainId_quiet PySem.F.plain_extend_loop _, ?_⟩) (by rw [List.size_toArray, sizeLine_eq]; omega) (by show (its2.toArray.push u).size ≤ sizeLine + 1; rw [Array.size_push, List.size_toArray, sizeLine_eq]; omega))
    have I3 := I2.lset (f := (·.push u)) (its' := its2 ++ [u]) (ys := zs.take i ++ [zs[i]]) (t' := s.toks) hq2 e (by simp) (r2.append (.cons ru .nil)) (by rw [List.length_append, List.length_singleton, List.length_take, sizeLine_eq]; rw [sizeLine_eq] at hz; omega)
    refine ih (i + 1) _ _ (by omega) (by omega) I3 ?_ nit nqt ?_ ?_ fun s' I4 => hR s' ?_
    · rw [upd_ne (Ne.symm hne), upd_same]
    · rw [upd_ne (Ne.symm nqt), upd_ne (Ne.symm nit)]
      exact ht
    · rw [upd_same, take_snoc hzi]
    · have e4 : upd (upd (upd (upd H it (ItL t it (i + 1))) q (.lst (zs.take i ++ [zs[i]]))) it (ItTE it)) q (.lst zs) = upd (upd H it (ItTE it)) q (.lst zs) := by
        funext b
        by_cases hb : b = q
        · rw [hb, upd_same, upd_same]
        · rw [upd_ne hb, upd_ne hb]
          by_cases hb2 : b = it
          · rw [hb2, upd_same, upd_same]
          · rw [upd_ne hb2, upd_ne hb2, upd_ne hb, upd_ne hb2]
      rw [← e4]
      exact I4
def rListItL (C : Addr) (sp : Nat → Sp) (E : XK) : List V → Hp → VK → Prop := fun xs H Q => ∃ a dx fs, xs = [.ref a] ∧ H a = some (.ins C dx fs) ∧
  ∀ q n, H q = none → sp n [.ref a] (upd H q (.lst [])) (fun v H1 => ∃ (it t : Addr) (zs : List V), v = .ref it ∧ H1 it = some (ItO t it 0) ∧ it ≠ t ∧ q ≠ t ∧ H1 t = some (.lst zs) ∧ H1 q = some (.lst []) ∧ (∃ dx' fs', H1 a = some (.ins C dx' fs')) ∧ Q (.ref q) (upd (upd H1 it (ItTE it)) q (.lst zs))) E
theorem call_listItL {C f : Addr} {fd : FuncData} {ps : List Str} {sp : Nat → Sp} {E : XK} {n : Nat} {CX : CXT} (hs : PySem.W.findIn X.K (.ref C) "__iter__" = some (some (.ref f))) (hfn : PySem.W.isFn X.K (.ref f) = true) (n1 : PySem.W.findIn X.K (.ref C) "__len__" = some none) (n2 : PySem.W.findIn X.K (.ref C) "__length_hint__" = some none)
    (F : FnY X.prog X.w X.K X.mg X.base CX n f fd ps sp) (hb : Binds X.K fd ps []) (hx : Passes CX X E) (hr : Room (n + 2) X.A) : CallR X (.type "list") (rListItL C sp E) := by
  intro pins s σ H xs us Q I rv h
  obtain ⟨a, dx, fs, rfl, ha, hq⟩ := h
  obtain ⟨u, rfl, ru⟩ := rv.one
  cases ru
  have sb : Sub X n X.A.in1.in1 := (Sub.in1 (Sub.in1 (⟨hr, rfl⟩ : Sub X (n + 2) X.A)))
  refine callType_codes (Q₁ := fun obj s₁ => obj = .ref s.heap.objs.size ∧ s₁ = { s with heap := s.heap.push { cls := .type "list", data := .seq #[] } }) PySem.F.called_list (PySem.F.typeCall_list_1 _) PySem.F.entry_list_init
    (code_list_new _ ⟨rfl, rfl⟩) fun obj s₁ h₁ => ?_
  obtain ⟨rfl, rfl⟩ := h₁
  have hS : (s.heap.push { cls := .type "list", data := .seq #[] }).get? s.heap.objs.size = some { cls := .type "list", data := .seq #[] } := Heap.get?_push_size _ rfl
  refine ⟨⟨_, hS, rfl⟩, PySem.F.args_list_init_2 _ _, ?_⟩
  have fr : H s.heap.objs.size = none := I.hok.fresh (Nat.le_refl _)
  have hsp := fun n => hq _ n fr
  have I1 : Inv X pins σ (upd H s.heap.objs.size (.lst [])) { s with heap := s.heap.push { cls := .type "list", data := .seq #[] } } := I.lnew (its := []) (t' := s.toks) .nil (Nat.zero_le _)
  show wpAny _ _ (do let old ← Builtin.List.listItems (.ref s.heap.objs.size); Builtin.List.listUpdate (.ref s.heap.objs.size) (fun _ => #[]); letGo old.toList.reverse; Builtin.List.listExtendWith (.ref s.heap.objs.size) (.ref a) .none) _ _ _
  refine wpAny_bind ?_
  unfold Builtin.List.listItems
  refine wpAny_bind (wpAny_seqItems hS rfl (wpAny_pure ?_))
  show wpAny _ _ (updateSeq s.heap.objs.size (fun _ => #[]) >>= fun _ => letGo (#[] : Array Value).toList.reverse >>= fun _ => Builtin.List.listExtendWith (.ref s.heap.objs.size) (.ref a) .none) _ _ _
  refine wpAny_bind (wpAny_updateSeq hS rfl ?_)
  have I2 := I1.lset (f := fun _ => #[]) (its := []) (its' := []) (ys := []) (t' := s.toks) upd_same hS rfl .nil (Nat.zero_le _)
  rw [upd_upd] at I2
  refine wpAny_bind (wpAny_letGo ?_)
  have ha2 : upd H s.heap.objs.size (.lst []) a = some (.ins C dx fs) := by rw [upd_ne (ne_of_none ha fr)]; exact ha
  have hne : s.heap.objs.size ≠ a := Ne.symm (ne_of_none ha fr)
  generalize hH2 : upd H s.heap.objs.size (.lst []) = H2 at *
  generalize s.heap.objs.size = q at *
  obtain ⟨mA, J, _⟩ := ins_get I2.hok ha2
  obtain ⟨od, J, _⟩ := J.look
  obtain ⟨m0, hF⟩ := I2.fr
  unfold Builtin.List.listExtendWith
  refine wpAny_bind (J.type.here ?_)
  have h1 : Builtin.List.listSameRef (.ref q) (.ref a) = false := by simp [Builtin.List.listSameRef, hne]
  have h2 : (Value.ref C == Value.type "list") = false := rfl
  have h3 : (Value.ref C == Value.type "tuple") = false := rfl
  simp only [h1, h2, h3, Bool.or_false, Bool.false_eq_true, if_false]
  refine wpAny_bind (PySem.W.owit_iter hF I2.ok.mod.kin J hs hfn ?_)
  have e0 : ∀ {s : Shared} {H : Hp}, Inv X pins σ H s → Env0 X.prog X.w X.K X.mg X.base X.A.in1.in1 X.stack s H := fun {s H} I => by
    have e := I.env0
    exact ⟨by rw [sb.fr]; exact e.frames, e.mod, e.bs, e.bsz, e.funs, e.frf, e.hok, e.bare⟩
  have hl := F.len _ _ _ _ _ (hsp 0)
  have r2 : Vals [V.ref a] [Value.ref a] := .cons rfl .nil
  refine wpAny_call (codeAny_mono (F.run X.A.in1.in1 X.stack _ _ ⟨[.ref a], []⟩ [.ref a] [.ref a] _ E sb.room (e0 I2) (by
    have := hb _ [.ref a] I2.kIn (by simpa using hl)
    simpa using this) r2 (hsp _)) fun r s' hq' => ?_)
  cases r with
  | error e => exact hx pins σ _ _ e s' I2 hq'
  | ok fl =>
    cases fl with
    | next => exact False.elim hq'
    | brk => exact False.elim hq'
    | cont => exact False.elim hq'
    | ret u =>
      obtain ⟨v, H', I', rv, it, t, zs, ev, hit, nit, nqt, ht, hqq, ⟨dx', fs', ha'⟩, hQ⟩ := I2.after hq'
      subst ev
      cases rv
      have stt : ∀ s'', Inv X pins σ H' s'' → s''.heap.IsListIter it t 0 := fun s'' I'' => ⟨_, itO_get I'' hit, rfl, rfl⟩
      have hT : s'.TypeIs (.ref it) "list_iterator" := (stt s' I').typeIs
      have hqi : q ≠ it := fun z => by
        rw [z, hit] at hqq
        exact (nomatch hqq)
      show wpAny _ _ (specialOf (.ref it) "__next__") _ _ _
      refine wpAny_specialOf hT slot_listiter_next.lookup ?_
      obtain ⟨mA', J', _⟩ := ins_get I'.hok ha'
      obtain ⟨od', J', _⟩ := J'.look
      refine wpAny_bind (wpAny_holding (hint_own n1 n2 I'.kIn J' ?_))
      have go : ∀ s'', Inv X pins σ H' s'' → codeAny (model X.prog X.w) X.A.in1 (.builtin "list.extend.loop" ⟨[.ref q, .ref it, .none], []⟩) (wants (fun r s₂ => r = .none ∧ EP X pins σ Q (.ref q) s₂) X.xe) s'' := fun s'' I'' =>
by
        have mu : Mut (H' it) := by rw [hit]; exact True.intro
        obtain ⟨oi, ei, _⟩ := id (stt s'' I'')
        have I5 : Inv X pins σ (upd H' it (ItL t it 0)) s'' := I''.write (x := it) (e := it) (t' := s''.toks) mu (.inl rfl) (fun b o nb z => z) ⟨_, ei⟩ (itL_ok (stt s'' I''))
        refine loop_lst (t := t) (zs := zs) sb.room.hd hqi zs.length 0 _ s'' (by simp) (Nat.zero_le _) I5 upd_same nit nqt (by rw [upd_ne (Ne.symm nit)]; exact ht) (by rw [upd_ne hqi, hqq]; rfl) fun s3 I3 => ?_
        rw [upd_upd] at I3
        exact ⟨rfl, .ref q, _, I3, rfl, hQ⟩
      obtain ⟨z, its, k, r3, hl3, e3⟩ := I'.lstM hqq
      cases r3
      refine wpAny_ite_split (fun _ => ?_) (fun _ => wpAny_pure ⟨plainId_quiet PySem.F.plain_extend_loop _, go s' I'⟩)
      refine wpAny_bind (wpAny_rule ?_)
      refine wpAny_bind ?_
      show wpAny _ _ (updateSeq q (·.push .none) >>= fun _ => updateSeq q (·.pop)) _ _ _
      refine wpAny_bind (wpAny_updateSeq e3 rfl ?_)
      have I3 := I'.lset (f := (·.push Value.none)) (its' := [Value.none]) (ys := [.non]) (t' := s'.toks) hqq e3 (by simp) (.cons rfl .nil) (by rw [List.length_singleton, sizeLine_eq]; decide)
      obtain ⟨z4, its4, k4, r4, hl4, e4⟩ := I3.lstM upd_same
      obtain ⟨u4, rfl, ru4⟩ := r4.one
      refine wpAny_updateSeq e4 rfl ?_ (by show 1 ≤ sizeLine; rw [sizeLine_eq]; decide) (by show 0 ≤ sizeLine + 1; exact Nat.zero_le _)
      have I4 := I3.lset (f := (·.pop)) (its := [u4]) (its' := []) (ys := []) (t' := s'.toks) upd_same e4 (by rfl) .nil (Nat.zero_le _)
      rw [upd_upd] at I4
      have hH : upd H' q (.lst []) = H' := by
        funext b
        by_cases hb : b = q
        · rw [hb, upd_same, hqq]
        · rw [upd_ne hb]
      rw [hH] at I4
      exact wpAny_pure ⟨plainId_quiet PySem.F.plain_extend_loop _, go _ I4⟩
end
theorem u190 {k : Nat} {A : Around} (r : Room k A) : A.units + 190 < cLine := by have := r.un; omega
end XL
set_option Elab.async false
set_option linter.all false
set_option maxRecDepth 100000
set_option maxHeartbeats 4000000
/-! XFoc: o.f = v by an own property's setter; C(..) within a try; a call that raises within a def that lets it out; a written tuple. -/
namespace XL
open PySem PySem.Spec PyProof.Rows L2
structure PSet (K : PySem.W.Frag) (C : Addr) (f : Str) (p g : Addr) : Prop where
  tk : PySem.W.takerIn K C f = some (some (.ref p))
  ty : PySem.W.typeIn K (.ref p) = some (.type "property")
  rec_ : ∃ a rest, PySem.W.recIn K p "property" = some (a :: .ref g :: rest)
def sPSet (C : Addr) (sp : Sp) (E : XK) (ta tv : TE) : TS := fun D σ H => tv σ H fun y H1 => ta σ H1 fun x H2 => ∃ a dx fs, x = .ref a ∧ H2 a = some (.ins C dx fs) ∧ sp [.ref a, y] H2 (fun _ H3 => D.nx σ H3) E
section
variable {X : Cx} {CX : CXT} {k : Nat} {C p g : Addr} {f : Str} {fd : FuncData} {ps : List Str} {sp : Sp} {E : XK} {o value : Expr} {pos pos' : Pos} {ta tv : TE}
theorem Room.in2 {k : Nat} {A : Around} (r : Room (k + 2) A) : Room k A.in1.in1 := (Room.in1 (Room.in1 r))
/-- o.f = v, f a property with a setter -/
theorem ps_pset (ha : PE X o ta) (hv : PE X value tv) (c : Cls X.K C) (hp : PSet X.K C f p g) (F : FnOk X.prog X.w X.K X.mg X.base CX k g fd ps sp) (hr : Room (k + 2) X.A) (hb : Binds X.K fd ps []) (hx : Passes CX X E)
    (hs : swapsWith value (some (.Attribute o f pos')) pos.line X.env = pure false) : PS X (.Assign [.Attribute o f pos'] value pos) (sPSet C sp E ta tv) := by
  refine ⟨fun pins s σ H D I h => ?_⟩
  refine plainObj_wpAny_Assign_Attribute (thn (hv.run pins s σ H _ I h) fun u s1 ⟨y, H1, I1, ry, q⟩ => thn (ha.run pins s1 σ H1 _ I1 q) fun ov s2 ⟨x, H2, I2, rx, a, dx, fs, ex, ea, q2⟩ => ?_) hs
  subst ex
  obtain rfl : ov = Value.ref a := rx
  obtain ⟨mA, O, _, _, _, _⟩ := ins_get I2.hok ea
  obtain ⟨od, J, _⟩ := O.look
  obtain ⟨a0, rest, hrec⟩ := hp.rec_
  have I3 := I2.tok (s2.toks + 1)
  have hl : ([Value.ref a, u] : List Value).length = ps.length := by
    rw [← F.len _ _ _ _ q2]
    rfl
  refine PySem.W.set_plain I2.kIn J c.sa (PySem.W.osa_descr PySem.W.KF.slot_pset I3.kIn J c.po hp.tk hp.ty (PySem.W.prop_set I3.kIn hrec ?_))
  have b := hb { s2 with toks := s2.toks + 1 } [.ref a, u] I3.kIn (by rw [List.append_nil]; exact hl)
  rw [List.append_nil] at b
  refine codeAny_mono (F.run X.A.in1.in1 X.stack { s2 with toks := s2.toks + 1 } H2 ⟨[.ref a, u], []⟩ [.ref a, u] [.ref a, y] _ E (Room.in2 hr) I3.env0.in1.in1 b (.cons rfl (.cons ry .nil)) q2) fun r s' hq => ?_
  cases r with
  | error e => exact hx pins σ _ _ e s' I3 hq
  | ok fl =>
    cases fl with
    | ret u =>
      obtain ⟨v, H', I', rv, q3⟩ := I3.after hq
      exact ⟨σ, H', I', q3⟩
    | next => exact False.elim hq
    | brk => exact False.elim hq
    | cont => exact False.elim hq
end
/-- what leaves a def by its own promise -/
theorem passO {X : Cx} {E : XK} (tk : Takes X (fun cls d _ H => E cls d H)) : Passes (L2.CX X.prog X.w) X E := fun pins σ H s e s' I c => passes_call tk (fun _ _ _ _ h => h) pins σ H s e s' I c
section
variable {X : Cx} {CX : CXT} {k : Nat} {f C : Addr} {fd : FuncData} {ps : List Str} {ds : List Value} {dvs : List V} {sp : Sp} {E : L2.St → XK} {x : Str} {p pos : Pos} {e : Expr} {es : List Expr} {t : TA}
theorem run_makeT {pins : List (Addr × Obj)} {σ : L2.St} {H : Hp} {s : Shared} {Q : VK} {us : List Value} {vs : List V} (M : Mk X.K C f) (F : FnOk X.prog X.w X.K X.mg X.base CX k f fd ps sp) (hr : Room (k + 1) X.A) (hb : Binds X.K fd ps ds) (hd : Vals dvs ds)
    (hx : PassesAt CX X σ (E σ)) (I : Inv X pins σ H s) (r : Vals vs us)
    (h : ∀ x dx, H x = none → H dx = none → dx ≠ x → sp (.ref x :: (vs ++ dvs)) (upd (upd H dx (.own x)) x (.ins C dx [])) (fun v H2 => v = .non ∧ Q (.ref x) H2) (E σ)) :
    wpAny (model X.prog X.w) X.A (call (.ref C) us) (EP X pins σ Q) X.xe s := by
  have hq := h (s.heap.objs.size + 1) s.heap.objs.size (I.hok.fresh (Nat.le_succ _)) (I.hok.fresh (Nat.le_refl _)) (Nat.ne_of_lt (Nat.lt_succ_self _))
  have I2 := Inv.made (C := C) I
  have r2 : Vals (V.ref (s.heap.objs.size + 1) :: (vs ++ dvs)) (Value.ref (s.heap.objs.size + 1) :: (us ++ ds)) := .cons rfl (r.append hd)
  have hl : (Value.ref (s.heap.objs.size + 1) :: us ++ ds).length = ps.length := by
    have e := r2.length
    rw [F.len _ _ _ _ hq] at e
    exact e.symm
  refine wpAny_call (make_map (f := f) I.kIn M.makes M.init (beq_iff_eq.mp M.fn) (codeAny_mono (F.run _ X.stack _ _ ⟨Value.ref (s.heap.objs.size + 1) :: us, []⟩ (Value.ref (s.heap.objs.size + 1) :: (us ++ ds)) _ _ (E σ) (hr.make C us [])
    (I2.env0.make C us []) (hb _ (Value.ref (s.heap.objs.size + 1) :: us) I2.kIn hl) r2 hq) fun r s' hq' => ?_))
  cases r with
  | error e => exact hx pins _ _ e s' I2 hq'
  | ok fl =>
    cases fl with
    | ret u =>
      obtain ⟨v, H', I3, rv, ev, q3⟩ := I2.after hq'
      subst ev
      exact ⟨rv, ⟨V.ref (s.heap.objs.size + 1), H', I3, rfl, q3⟩⟩
    | next => exact False.elim hq'
    | brk => exact False.elim hq'
    | cont => exact False.elim hq'
def tMakeT (C : Addr) (sp : Sp) (dvs : List V) (E : L2.St → XK) (t : TA) : TE := fun σ H Q => t σ H fun vs H1 => ∀ x dx, H1 x = none → H1 dx = none → dx ≠ x → sp (.ref x :: (vs ++ dvs)) (upd (upd H1 dx (.own x)) x (.ins C dx [])) (fun v H2 => v = .non ∧ Q (.ref x) H2) (E σ)
/-- C(e, ..) within a try -/
theorem pe_makeT (M : Mk X.K C f) (F : FnOk X.prog X.w X.K X.mg X.base CX k f fd ps sp) (hr : Room (k + 1) X.A) (hg : Gl X x) (hm : X.mg x = some (.ref C)) (hb : Binds X.K fd ps ds) (hd : Vals dvs ds) (hx : ∀ σ, PassesAt CX X σ (E σ))
    (ha : PA X (e :: es) t) (hdb : (x == ("__debug__" : Str)) = false := by decide) (he : starEach (e :: es) X.env = (false, eval e X.env) :: starEach es X.env := by rfl) (hpl : (backTo pos (starEach es X.env)).any (·.1) = false := by rfl) :
    PE X (.Call (.Name x p) (e :: es) [] pos) (tMakeT C sp dvs E t) := by
  refine ⟨fun pins s σ H Q I h => ?_⟩
  refine wpAny_Call_Name_kw (ld_glob I hg hm ?_ hdb)
  refine PySem.W.callWith_K (h₀ := X.base) I.ok.mod.kin M.kp (thn (ha.run pos pins s σ H _ I h) fun us s1 ⟨vs, H1, I1, r, q⟩ => ⟨I1.kIn, ?_⟩) he hpl
  exact run_makeT M F hr hb hd (hx σ) I1 r q
end
/-- the calls of a def with one default: with and without it -/
structure Dfl1 (K : PySem.W.Frag) (fd : FuncData) (ps : List Str) (dv : V) : Prop where
  all : Binds K fd ps []
  one : ∃ ds, Vals [dv] ds ∧ Binds K fd ps ds
end XL
namespace XL
open PySem PySem.Spec PyProof.Rows L2
section
variable {X : Cx} {pos : Pos}
theorem pg_unlK (K : PySem.W.Frag) (n : Nat) {es : List Expr} {k : Nat} {t : TGs} (h : PGs X es t) (hc : X.calm = true := by rfl) (hK : X.K = K := by rfl)
    (hn : (assignEach es X.env).length = n := by rfl) (hst : (assignEach es X.env).findIdx? (·.1) = none := by rfl) : PG X (.Tuple es k pos) (gUnl K n t) := hK ▸ pg_unl hc h hn hst
theorem mt_indexK (K : PySem.W.Frag) (hK : X.K = K := by rfl) : MtR X "list.index" (rIndex K) := hK ▸ mt_index
end
end XL
set_option Elab.async false
set_option linter.all false
set_option maxRecDepth 100000
set_option maxHeartbeats 4000000
/-! XDel: del xs[a:]. -/
namespace XL
open PySem PySem.Spec PyProof.Rows L2
section
variable {prog : Program} {w : World} {A : Around} {E : Value → Shared → Prop} {s : Shared}
def selF (a n : Int) (i : Nat) : Bool := if (1 : Int) > 0 then a ≤ i && i < n && ((i : Int) - a) % 1 == 0 else n < i && i ≤ a && (a - i) % (-1) == 0
theorem selF_eq (a n i : Nat) : selF (a : Int) (n : Int) i = (decide (a ≤ i) && decide (i < n)) := by
  unfold selF
  rw [if_pos (by decide)]
  have h : (((i : Int) - (a : Int)) % 1 == 0) = true := by rw [Int.emod_one]; rfl
  rw [h, Bool.and_true]
  congr 1
  · exact decide_eq_decide.mpr Int.ofNat_le
  · exact decide_eq_decide.mpr Int.ofNat_lt
theorem zip_keep : ∀ (xs : List Value) (j a n : Nat), j + xs.length ≤ n → ((xs.zipIdx j).filterMap fun (p : Value × Nat) => if (selF (a : Int) (n : Int) p.2) = true then none else some p.1) = xs.take (a - j)
  | [], _, _, _, _ => by simp
  | x :: r, j, a, n, h => by
    rw [List.length_cons] at h
    rw [List.zipIdx_cons, List.filterMap_cons, selF_eq]
    have ih := zip_keep r (j + 1) a n (by omega)
    by_cases hj : a ≤ j
    · have e1 : (decide (a ≤ j) && decide (j < n)) = true := by rw [decide_eq_true hj, decide_eq_true (by omega)]; rfl
      have e0 : a - j = 0 := by omega
      have e2 : a - (j + 1) = 0 := by omega
      rw [e2, List.take_zero] at ih
      rw [e0, List.take_zero]
      simp only [e1, if_true]
      exact ih
    · have e1 : (decide (a ≤ j) && decide (j < n)) = false := by rw [decide_eq_false hj]; rfl
      have e0 : a - j = a - (j + 1) + 1 := by omega
      rw [e0, List.take_succ_cons, ← ih]
      simp only [e1, Bool.false_eq_true, if_false]
theorem bounds_from {a n : Nat} (h : a ≤ n) : sliceBounds (some (a : Int)) none none n = ((a : Int), (n : Int), 1) := by
  simp only [sliceBounds, Option.getD_none]
  have h1 : ¬ ((a : Int) < 0) := by omega
  simp only [h1, if_false, show (1 : Int) > 0 by decide, if_true]
  congr 1
  omega
/-- list.__delitem__ with a slice from a place on -/
theorem delItem_from {l sl : Addr} {items : Array Value} {n : Nat} {vl : Value} {a : Nat} {Q : Unit → Shared → Prop}
    (e : s.heap.get? l = some { cls := .type "list", data := .seq items n }) (hs : s.heap.IsSliceOf sl vl .none .none) (pl : IsPart vl (some (a : Int))) (hac : a ≤ items.size) (hsz : items.size ≤ sizeLine)
    (h : Q () { s with heap := s.heap.update l (Obj.mapSeq fun xs => (xs.toList.zipIdx.filterMap fun (p : Value × Nat) => if (selF (a : Int) (items.size : Int) p.2) = true then none else some p.1).toArray) }) :
    wpAny (model prog w) A (delItem (.ref l) (.ref sl)) Q E s := by
  have hl : s.heap.IsList l items := PySem.IsL.isList e
  obtain ⟨os, hos, hcs, hds⟩ := id hs
  have hTs : s.TypeIs (.ref sl) "slice" := ⟨os, hos, hcs⟩
  have hstep : ¬ ((rawPart none == rawInt 0) = true) := Bool.false_ne_true
  have hz' : ((fun xs : Array Value => (xs.toList.zipIdx.filterMap fun (p : Value × Nat) => if (selF (a : Int) (items.size : Int) p.2) = true then none else some p.1).toArray) items).size ≤ sizeLine + 1 := by
    show (_ : List Value).toArray.size ≤ _
    rw [List.size_toArray, zip_keep items.toList 0 a items.size (by rw [Array.length_toList]; omega), List.length_take, Array.length_toList]
    omega
  unfold delItem
  try with_reducible refine wpAny_holding ?_
  first | refine wpAny_bind (wpAny_pure ?_) | skip
  refine wpAny_bind (wpAny_sequenceKey hl.typeIs (by decide) ?_)
  refine wpAny_bind (wpAny_callSpecial?_slot (name := Str.ofString "__delitem__") hl.typeIs PySem.F.slot_list_delitem
    (wpAny_call_entry PySem.F.slot_list_delitem hl.typeIs PySem.F.entry_list_delitem ?_ (PySem.F.args_list_delitem_2 _ _)))
  show wpAny _ _ (Builtin.List.listSubscript? (.ref sl) >>= _) _ _ s
  refine wpAny_bind ?_
  unfold Builtin.List.listSubscript?
  refine wpAny_bind (wpAny_specialOf hTs slice_no_index ?_)
  simp only [Option.isNone_none, if_true]
  refine wpAny_pure ?_
  show wpAny _ _ (typeOf (.ref sl) >>= _) _ _ s
  refine wpAny_bind (wpAny_typeOf hTs ?_)
  first
    | rw [if_neg (by decide)]
    | refine PySem.W.KFB.if_not (by decide) ?_
  rw [listSliceParts_eq]
  refine wpAny_bind (wpAny_bind (wpAny_field hos hds (x := .none) rfl (wpAny_bind (wpAny_listPart .none ?_))))
  rw [if_neg hstep]
  refine wpAny_bind (wpAny_field hos hds (x := vl) rfl (wpAny_bind (wpAny_listPart pl ?_)))
  refine wpAny_bind (wpAny_field hos hds (x := .none) rfl (wpAny_bind (wpAny_listPart .none (wpAny_pure ?_))))
  unfold Builtin.List.listItems
  refine wpAny_bind (wpAny_bind (wpAny_seqItems e rfl (wpAny_pure ?_)))
  refine wpAny_bind (wpAny_of_eq ((sliceIndices_raw (some (a : Int)) none none items.size (by simp)).trans (congrArg (pure : Int × Int × Int → Sem (Int × Int × Int)) (bounds_from hac))) ?_)
  refine wpAny_bind (wpAny_rule ?_)
  show wpAny _ _ (updateSeq l (fun xs => (xs.toList.zipIdx.filterMap fun (p : Value × Nat) => if (selF (a : Int) (items.size : Int) p.2) = true then none else some p.1).toArray) >>= _) _ _ s
  refine wpAny_bind (wpAny_updateSeq (hz := hsz) (_hz' := hz') e rfl ?_)
  refine wpAny_bind (wpAny_letGo ?_)
  first
    | exact wpAny_bind (wpAny_pure (wpAny_pure ⟨.none, rfl, wpAny_pure h⟩))
    | exact wpAny_pure ⟨.none, rfl, wpAny_pure h⟩
end
section
variable {X : Cx} {pos : Pos}
def tDelF (to ti : TE) : TS := fun D σ H => to σ H fun x H1 => ti σ H1 fun y H2 => ∃ (l : Addr) (xs : List V) (k : Nat), x = .ref l ∧ y = .int (k : Nat) ∧ H2 l = some (.lst xs) ∧ k ≤ xs.length ∧ D.nx σ (upd H2 l (.lst (xs.take k)))
theorem ps_delFrom {o lo : Expr} {to ti : TE} {p2 tpos : Pos} (ho : PE X o to) (hi : PE X lo ti) : PS X (.Delete [.Subscript o (.Slice (some lo) none none p2) tpos] pos) (tDelF to ti) := by
  refine ⟨fun pins s σ H D I h => ?_⟩
  refine wpAny_Delete (wpAny_deleteEach_cons (wpAny_delete_Subscript (thn (ho.run pins s σ H _ I h) fun u s1 ⟨x, H1, I1, rx, q1⟩ => ?_)))
  refine wpAny_Slice (wpAny_evalPart_some (thn (hi.run pins s1 σ H1 _ I1 q1) fun iv s2 ⟨y, H2, I2, ry, q2⟩ => wpAny_evalPart_none (wpAny_evalPart_none ?_)))
  obtain ⟨l, xs, k, rfl, rfl, hH, hk, q2⟩ := q2
  cases (show u = Value.ref l from rx)
  obtain ⟨t, rfl⟩ := (show ∃ t, iv = Value.int (k : Nat) t from ry)
  have I4 : L2.Inv X pins σ H2 { s2 with heap := s2.heap.push { cls := .type "slice", data := .fields #[.int (k : Nat) t, .none, .none] } } := I2.kept (t' := s2.toks) fun b ob q => Heap.get?_push_of_some _ q
  obtain ⟨z, its, n, r, hl, e⟩ := I4.lstM hH
  refine delItem_from (a := k) e (Heap.IsSliceOf.new ..) (.int _ _) (by rw [List.size_toArray, ← hl]; exact hk) (by rw [List.size_toArray]; omega) ?_
  refine wpAny_deleteEach_nil ⟨σ, _, I4.lset (its' := its.take k) (t' := s2.toks) hH e ?_ (r.take k) ?_, q2⟩
  · show (_ : List Value).toArray = _
    rw [zip_keep its 0 k _ (by rw [List.size_toArray]; omega)]
    rfl
  · rw [List.length_take]
    omega
end
theorem Sep.setAt {G H : Hp} {M : List (Addr × HO)} {i : Nat} {a : Addr} {o o' : HO} (S : Sep G M H) (h : M[i]? = some (a, o)) : Sep G (M.set i (a, o')) (upd H a o') := by
  have hi := (List.getElem?_eq_some_iff.mp h).1
  have S1 := S.perm (perm_erase h).symm
  have S2 := S1.set (o' := o')
  have e : (M.set i (a, o'))[i]? = some (a, o') := List.getElem?_set_self hi
  have p := perm_erase e
  rw [List.eraseIdx_set_eq] at p
  exact S2.perm p
end XL
namespace XL
open PySem PySem.Spec PyProof.Rows L2
/-! ### a text, several times -/
def repS (x : Str) (k : Nat) : Str := ⟨(List.replicate k x.cps).foldl (· ++ ·) #[]⟩
theorem foldl_cps : ∀ (k : Nat) (a : Array Nat) (x : Array Nat), ((List.replicate k x).foldl (· ++ ·) a).toList = a.toList ++ (List.replicate k x.toList).flatten
  | 0, a, x => by simp
  | k + 1, a, x => by
    rw [List.replicate_succ, List.foldl_cons, foldl_cps k, List.replicate_succ, List.flatten_cons]
    simp
theorem repS_tl (x : Str) (k : Nat) : (repS x k).cps.toList = (List.replicate k x.cps.toList).flatten := by
  have := foldl_cps k #[] x.cps
  simpa [repS] using this
theorem repS_len (x : Str) : ∀ k : Nat, (repS x k).length = k * x.length := by
  intro k
  rw [len_tl, repS_tl]
  induction k with
  | zero => simp
  | succ k ih =>
    rw [List.replicate_succ, List.flatten_cons, List.length_append, ih, ← len_tl, Nat.succ_mul]
    omega
theorem repS_mem {x : Str} {k c : Nat} (h : c ∈ (repS x k).cps.toList) : c ∈ x.cps.toList := by
  rw [repS_tl] at h
  obtain ⟨l, hl, hc⟩ := List.mem_flatten.mp h
  rw [(List.mem_replicate.mp hl).2] at hc
  exact hc
def yMulS : R2 := fun x y H Q => match x, y with
  | .str z, .int k => 2 ≤ k ∧ k ≤ 1000 ∧ 1 ≤ z.length ∧ z.length ≤ 1000 ∧ Q (.str (repS z k.toNat)) H
  | _, _ => False
theorem op_mulS {X : Cx} : OpR X (binaryOp .Mult) yMulS := by
  intro pins s σ H x y v u Q I rx ry h
  unfold yMulS at h
  split at h
  · rename_i z k
    obtain ⟨h1, h2, h3, h4, q⟩ := h
    obtain ⟨t, rfl⟩ := rx
    obtain ⟨t', rfl⟩ := ry
    have hk : ¬ k < 1 := by omega
    have hc : (k == 1 || z.length == 0) = false := by
      rw [Bool.or_eq_false_iff]
      exact ⟨beq_eq_false_iff_ne.mpr (by omega), beq_eq_false_iff_ne.mpr (by omega)⟩
    have hl : z.length * k.toNat ≤ 1000 * 1000 := Nat.mul_le_mul h4 (by omega)
    refine P.mul_str (by rw [decide_eq_false (by omega), decide_eq_false (by omega)]; rfl) (fun _ _ h => ?_) (fun _ _ => ?_) ?_
    · have : (z.length : Int) ≤ (2 ^ 63 - 1) / k := by
        rw [Int.le_ediv_iff_mul_le (by omega)]
        have e : (z.length : Int) * k = ((z.length * k.toNat : Nat) : Int) := by rw [Int.natCast_mul, Int.toNat_of_nonneg (by omega)]
        rw [e]
        omega
      omega
    · unfold Builtin.Str.tooLong
      exact decide_eq_false (by rw [sizeLine_eq]; omega)
    · rw [if_neg hk, if_neg (by rw [hc]; decide)]
      refine ⟨?_, .str (repS z k.toNat), H, I.tok _, ⟨_, rfl⟩, q⟩
      show (repS z k.toNat).length ≤ sizeLine
      rw [repS_len, sizeLine_eq, Nat.mul_comm]
      omega
  · exact h.elim
end XL
set_option Elab.async false
set_option linter.all false
set_option maxRecDepth 100000
set_option maxHeartbeats 4000000
/-! XPage: x in o by an own __contains__. -/
namespace XL
open PySem PySem.Spec PyProof.Rows L2
section
variable {X : Cx} {CX : CXT} {C f : Addr} {fd : FuncData} {ps : List Str} {sp : Sp} {E : XK} {n : Nat}
def yInO (C : Addr) (sp : Sp) (E : XK) (ng : Bool) : R2 := fun x y H Q => ∃ a dx fs, y = .ref a ∧ H a = some (.ins C dx fs) ∧ sp [.ref a, x] H (fun v H' => match v with
  | .bl b => Q (.bl (if ng = true then !b else b)) H'
  | _ => False) E
theorem op_inO (F : FnOk X.prog X.w X.K X.mg X.base CX n f fd ps sp) (hs : PySem.W.findIn X.K (.ref C) "__contains__" = some (some (.ref f))) (hf : PySem.W.isFn X.K (.ref f) = true) (hb : Binds X.K fd ps []) (hx : Passes CX X E) (hr : Room n X.A) : OpR X (compareOp .In) (yInO C sp E false) := by
  intro pins s σ H x y u v Q I rx ry h
  obtain ⟨a, dx, fs, rfl, ha, hsp⟩ := h
  cases ry
  obtain ⟨mA, J1, _⟩ := ins_get I.hok ha
  obtain ⟨od, J1, _⟩ := J1.look
  obtain ⟨m, hF⟩ := I.fr
  refine PySem.W.in_K hF I.ok.mod.kin J1 hs hf (wpAny_mono (run_fn (us := [.ref a, u]) (vs := [.ref a, x]) (dvs := []) F hr hb .nil hx I (.cons rfl (.cons rx .nil)) hsp) (fun r s' q => ?_) fun _ _ e => e)
  obtain ⟨z, H', I', rz, q⟩ := q
  cases z with
  | bl b =>
    cases rz
    exact wpAny_truthy_bool ⟨.bl b, H', I', rfl, q⟩
  | _ => exact q.elim
theorem op_ninO (F : FnOk X.prog X.w X.K X.mg X.base CX n f fd ps sp) (hs : PySem.W.findIn X.K (.ref C) "__contains__" = some (some (.ref f))) (hf : PySem.W.isFn X.K (.ref f) = true) (hb : Binds X.K fd ps []) (hx : Passes CX X E) (hr : Room n X.A) : OpR X (compareOp .NotIn) (yInO C sp E true) := by
  intro pins s σ H x y u v Q I rx ry h
  obtain ⟨a, dx, fs, rfl, ha, hsp⟩ := h
  cases ry
  obtain ⟨mA, J1, _⟩ := ins_get I.hok ha
  obtain ⟨od, J1, _⟩ := J1.look
  obtain ⟨m, hF⟩ := I.fr
  refine PySem.W.notIn_K hF I.ok.mod.kin J1 hs hf (wpAny_mono (run_fn (us := [.ref a, u]) (vs := [.ref a, x]) (dvs := []) F hr hb .nil hx I (.cons rfl (.cons rx .nil)) hsp) (fun r s' q => ?_) fun _ _ e => e)
  obtain ⟨z, H', I', rz, q⟩ := q
  cases z with
  | bl b =>
    cases rz
    exact wpAny_truthy_bool ⟨.bl (!b), H', I', rfl, q⟩
  | _ => exact q.elim
end
theorem _root_.L2.Room.u190 {k : Nat} {A : Around} (r : L2.Room k A) : A.units + 190 < cLine := by have := r.un; omega
/-! ### == and != of data of up to 190 levels, and of plain values -/
def rNeL (K : PySem.W.Frag) : R2 := fun x y H Q => ∃ d e, Dp K H x d ∧ Dp K H y e ∧ d.canLay0 = true ∧ e.canLay0 = true ∧ d.depth ≤ 190 ∧ Q (.bl (!PyData.eqv d e)) H
theorem op_neL {X : Cx} (K : PySem.W.Frag) (hu : X.A.units + 190 < cLine) (hK : X.K = K := by rfl) : OpR X (compareOp .NotEq) (rNeL K) := by
  subst hK
  intro pins s σ H x y v u Q I rx ry h
  obtain ⟨d, e, hd, he, sd, se, dp, q⟩ := h
  obtain ⟨as, r1⟩ := Dp.reads I d x v hd rx
  obtain ⟨bs, r2⟩ := Dp.reads I e y u he ry
  exact SeqAt.compareNe_reads r1 r2 sd se (by have := Nat.min_le_left d.depth e.depth; omega) ⟨.bl _, H, I, rfl, q⟩
def yEqL (K : PySem.W.Frag) : R2 := fun x y H Q => match x, y with
  | .int i, .int j => Q (.bl (decide (i = j))) H
  | .str i, .str j => Q (.bl (decide (i = j))) H
  | .bl i, .bl j => Q (.bl (decide (i = j))) H
  | .ref a, .ref b => rEqL K (.ref a) (.ref b) H Q
  | x, y => scal x y = true ∧ Q (.bl (decide (x = y))) H
def yNeL (K : PySem.W.Frag) : R2 := fun x y H Q => match x, y with
  | .int i, .int j => Q (.bl (!decide (i = j))) H
  | .str i, .str j => Q (.bl (!decide (i = j))) H
  | .bl i, .bl j => Q (.bl (!decide (i = j))) H
  | .ref a, .ref b => rNeL K (.ref a) (.ref b) H Q
  | x, y => scal x y = true ∧ Q (.bl (!decide (x = y))) H
theorem op_eqLK {X : Cx} (K : PySem.W.Frag) (hu : X.A.units + 190 < cLine) (hK : X.K = K := by rfl) : OpR X (compareOp .Eq) (yEqL K) := by
  refine or_str (OpR.or (op_eq (X := X)) (op_eqL K hu hK)) fun x y H Q h => ?_
  unfold yEqL at h
  split at h
  · exact .inl ⟨rfl, by rw [deci]; exact h⟩
  · exact .inl ⟨rfl, by rw [decs]; exact h⟩
  · exact .inl ⟨rfl, by rw [decb]; exact h⟩
  · exact .inr h
  · exact .inl h
theorem op_neLK {X : Cx} (K : PySem.W.Frag) (hu : X.A.units + 190 < cLine) (hK : X.K = K := by rfl) : OpR X (compareOp .NotEq) (yNeL K) := by
  refine or_str (OpR.or (op_ne (X := X)) (op_neL K hu hK)) fun x y H Q h => ?_
  unfold yNeL at h
  split at h
  · exact .inl ⟨rfl, by rw [deci]; exact h⟩
  · exact .inl ⟨rfl, by rw [decs]; exact h⟩
  · exact .inl ⟨rfl, by rw [decb]; exact h⟩
  · exact .inr h
  · exact .inl h
end XL
set_option Elab.async false
set_option linter.all false
set_option maxRecDepth 100000
set_option maxHeartbeats 4000000
/-! XCnt: xs.count(x) of data. -/
namespace XL
open PySem PySem.Spec PyProof.Rows L2
theorem _root_.L2.Room.u65 {k : Nat} {A : Around} (r : L2.Room k A) : A.units + 65 < cLine := by have := r.un; omega
def rCntD (K : PySem.W.Frag) : V → List V → Hp → VK → Prop := fun x xs H Q => ∃ (a : Addr) (y : V) (ys : List V) (d : PyData) (ds : List PyData), x = V.ref a ∧ xs = [y] ∧ SqL K H a ys ∧ DpAll K H ys ds ∧ Dp K H y d ∧
  PyData.canLayAll0 ds = true ∧ SeqAt.shaped d = true ∧ Q (.int ((ds.countP fun z => PyData.eqv z d : Nat) : Int)) H
theorem mt_countD {X : Cx} (K : PySem.W.Frag) (hu : X.A.units + 65 < cLine) (h : X.K = K := by rfl) : MtR X "list.count" (rCntD K) := by
  subst h
  intro pins s σ H x xs v us Q I rx rxs h
  obtain ⟨a, y, ys, d, ds, rfl, rfl, hs, ha, hy, hxs, sd, q⟩ := h
  cases rx
  cases rxs with
  | cons ry rt =>
    rename_i uy ut
    cases rt
    obtain ⟨bs, r1⟩ := Dp.reads I d y uy hy ry
    have hroom : X.A.units + 1 + min (PyData.depthAll ds) d.depth < cLine := room_in_shaped sd hu
    obtain ⟨its, rv, ⟨⟨cls, dd, data, sl⟩, n, ho, hc, hdn, hd⟩, hlen⟩ := I.list hs
    simp only at hc hd
    subst hc hd
    obtain ⟨as, h4⟩ := Dp.readsAll I ds _ its ha rv
    have hmap : its.map (SeqAt.readOf s.heap) = ds := SeqAt.readsAll_map ds its as hxs h4
    refine call_meets PySem.F.slot_list_count ⟨_, ho, rfl⟩ PySem.F.entry_list_count (PySem.F.args_list_count_2 _ _)
      (SeqAt.list_countAt a its.toArray n dd sl uy (fun u => PyData.eqv (SeqAt.readOf s.heap u) d)) ⟨ho, SeqAt.items_eqAt (vs := its.toArray) (show ReadsAll s.heap its.toArray.toList ds as from h4) r1 hxs (SeqAt.canLay_of_shaped sd) hroom, ?_⟩
    have ec : its.toArray.toList.countP (fun u => PyData.eqv (SeqAt.readOf s.heap u) d) = ds.countP fun z => PyData.eqv z d := by
      rw [← hmap, List.countP_map]
      rfl
    refine ⟨.int ((ds.countP fun z => PyData.eqv z d : Nat) : Int), H, I.tok _, ⟨s.toks, ?_⟩, q⟩
    show Value.int ((its.toArray.toList.countP (fun u => PyData.eqv (SeqAt.readOf s.heap u) d) : Nat) : Int) s.toks = Value.int ((ds.countP fun z => PyData.eqv z d : Nat) : Int) s.toks
    rw [ec]
end XL
set_option Elab.async false
set_option linter.all false
set_option maxRecDepth 100000
set_option maxHeartbeats 4000000
/-! XPat: tuples that are put together and cut. -/
namespace XL
open PySem PySem.Spec PyProof.Rows L2
section
variable {K : PySem.W.Frag} {G H : Hp} {M : List (Addr × HO)} {a b : Addr} {xs ys : List V} {Q : VK}
theorem op_catAK {X : Cx} (K : PySem.W.Frag) (h : X.K = K := by rfl) : OpR X (binaryOp .Add) (rCatA K) := h ▸ op_catA
theorem cat_ok (S : Sep G M H) (ha : SqT K G a xs) (hb : SqT K G b ys) (hl : xs.length + ys.length ≤ sizeLine) (q : ∀ c G' H', Same G G' → SqT K G' c (xs ++ ys) → Sep G' M H' → Q (.ref c) H') : rCatA K (.ref a) (.ref b) H Q := by
  refine ⟨a, b, xs, ys, rfl, rfl, S.t ha, S.t hb, hl, fun e => ?_, fun _ e => ?_, fun _ _ p np => ?_⟩
  · subst e
    exact q b G H (Same.refl G) hb S
  · subst e
    exact q a G H (Same.refl G) (by rw [List.append_nil]; exact ha) S
  · exact q p _ _ (S.grow np) (SqT.of upd_same) (S.newG np)
theorem cutA_ok {lo hi : Option Int} (S : Sep G M H) (ha : SqT K G a xs) (q : ∀ c G' H', Same G G' → SqT K G' c (cutV xs lo hi) → Sep G' M H' → Q (.ref c) H') : rSlA K (.ref a) lo hi H Q := by
  refine ⟨a, xs, rfl, S.t ha, fun e => ?_, fun _ p np => ?_⟩
  · refine q a G H (Same.refl G) ?_ S
    have : cutV xs lo hi = xs := by
      unfold cutV
      rw [e.1, e.2, Nat.sub_zero, List.drop_zero, List.take_length]
    rw [this]
    exact ha
  · exact q p _ _ (S.grow np) (SqT.of upd_same) (S.newG np)
end
theorem sqT_ty {K : PySem.W.Frag} {H : Hp} {a : Addr} {xs : List V} (h : SqT K H a xs) : TyX K H (.ref a) (.type "tuple") := by
  rcases h with (h | ⟨o, h⟩) | ⟨o, _, _, h, c, _⟩
  · exact .base (.tup h)
  · exact .fTuple h
  · exact .kTuple h c
end XL
set_option Elab.async false
set_option linter.all false
set_option maxRecDepth 100000
set_option maxHeartbeats 4000000
/-! XStatic: staticmethods called through their class; x(*y) with the written part said. -/
namespace XL
open PySem PySem.Spec PyProof.Rows L2
/-- C.m is a staticmethod: its def at g -/
def SMet (K : PySem.W.Frag) (C : Addr) (mc : Value) (m : Str) (g : Addr) : Prop := ∃ p, PySem.W.findCls K (.ref C) mc m = some (.get (.builtin "staticmethod.__get__") (.ref p) .none (.ref C)) ∧ (∃ rest, PySem.W.recIn K p "staticmethod" = some (.ref g :: rest)) ∧ PySem.W.keepIn K (.ref g) = true
section
variable {X : Cx} {CX : CXT} {k : Nat} {C g : Addr} {mc : Value} {fd : FuncData} {ps : List Str} {sp : Sp} {E : XK} {o e : Expr} {es : List Expr} {m : Str} {pos apos : Pos} {ta : TE} {t : TA} {pl : Sem Bool}
theorem pe_smeth (he : PE X o ta) (r : ClX.CRead X.K C mc) (c : SMet X.K C mc m g) (F : FnOk X.prog X.w X.K X.mg X.base CX k g fd ps sp) (hr : Room k X.A) (hb : Binds X.K fd ps []) (hx : Passes CX X E) (ha : PA X (e :: es) t)
    (hst : starEach (e :: es) X.env = (false, eval e X.env) :: starEach es X.env := by rfl) (hpl : (backTo pos (starEach es X.env)).any (·.1) = false := by rfl)
    (ht : eval (.Call (.Attribute o m apos) (e :: es) [] pos) X.env = (do
      let ov ← eval o X.env
      standAt apos.atName
      let (f, first) ← holding [ov] (getMethod ov m pl)
      callWith pos f first (backTo pos (starEach (e :: es) X.env)) (backToKw pos (keywordEach [] X.env))) := by rfl) :
    PE X (.Call (.Attribute o m apos) (e :: es) [] pos) (fun σ H Q => ta σ H fun x H1 => x = .ref C ∧ t σ H1 fun vs H2 => sp vs H2 Q E) := by
  refine ⟨fun pins s σ H Q I h => ?_⟩
  refine PySem.W.methodCall_KW (pl := pl) (thn (he.run pins s σ H _ I h) fun u s1 ⟨x, H1, I1, rx, ex, q⟩ => ?_) ht
  subst ex
  obtain rfl : u = Value.ref C := rx
  obtain ⟨p, h1, ⟨rest, h2⟩, h3⟩ := c
  refine PySem.W.method_cls I1.kIn r.ga ?_
  refine PySem.W.cls_bind I1.kIn r.rd h1 ?_
  refine wpAny_call (PySem.W.sm_get (s := { s1 with toks := s1.toks + 1 }) I1.kIn h2 (PySem.W.handed_on rfl ?_))
  have I2 : L2.Inv X pins σ H1 { s1 with toks := s1.toks + 1 } := I1.tok _
  refine PySem.W.callWith_K (h₀ := X.base) I2.ok.mod.kin h3 (thn (ha.run pos pins _ σ H1 _ I2 q) fun us s3 ⟨vs, H2, I3, r3, q3⟩ => ⟨I3.kIn, ?_⟩) hst hpl
  exact run_fn (us := us) (vs := vs) (dvs := []) F hr hb .nil hx I3 r3 (show sp (vs ++ []) H2 Q E by rw [List.append_nil]; exact q3)
end
section
variable {X : Cx}
theorem sw_trueD {kx vx : Expr} {gs : List Comprehension} {scope : Scope} {pos py : Pos} {y : Str} {l : Nat} {env : Env} (hk : env.scope.kind = .function) (hy : env.scope.names.lookup y = some .local) (hl : (py.line == pos.line) = true)
    (ha : (scope.names.any fun (n, k) => n == y && (k == .local || k == .cell)) = false) : swapsWith (.DictComp kx vx gs scope pos) (some (.Name y py)) l env = pure true := by
  have ky : env.kindOf y = some .local := hy
  have hb : env.blockKind = .function := by unfold Env.blockKind; rw [hk]; rfl
  unfold swapsWith
  simp only [hb, ky, ha, Expr.pos, hl]
  rfl
/-- name = {..} on one line, the name a local -/
theorem ps_setDc {i : Nat} {y : Str} {py : Pos} {kx vx tg iter : Expr} {ifs : List Expr} {scope : Scope} {own : List (Str × Nat)} {pos spos : Pos} {wi : TI} {g : TG} {tt : TT} {tk tv : TE} (hc : X.calm = true) (hN : X.N.Nodup) (hy : X.N[i]? = some y) (hyl : X.env.scope.names.lookup y = some .local)
    (hsw : swapsWith (.DictComp kx vx [⟨tg, iter, ifs, 0⟩] scope pos) (some (.Name y py)) spos.line X.env = pure true) (hi : PI X tg iter wi) (ok : BlkOk X.N X.env.scope scope own)
    (hg : ∀ (s : Shared) (H : Hp) (C : Addr) (cl : List (Str × Addr)) (fp : List Addr), PG (X.blk s H scope (compEnvC scope cl C X.env) fp) tg g) (ht : ∀ (s : Shared) (H : Hp) (C : Addr) (cl : List (Str × Addr)) (fp : List Addr), PTs (X.blk s H scope (compEnvC scope cl C X.env) fp) ifs tt)
    (hk : ∀ (s : Shared) (H : Hp) (C : Addr) (cl : List (Str × Addr)) (fp : List Addr), PE (X.blk s H scope (compEnvC scope cl C X.env) fp) kx tk)
    (he : ∀ (s : Shared) (H : Hp) (C : Addr) (cl : List (Str × Addr)) (fp : List Addr), PE (X.blk s H scope (compEnvC scope cl C X.env) fp) vx tv) (hs : ∀ x, foldedSetIterable iter X.env x = pure x := by intro _; rfl) :
    PS X (.Assign [.Name y py] (.DictComp kx vx [⟨tg, iter, ifs, 0⟩] scope pos) spos) (tAsg (tDc wi g tt tk tv (own.map (·.2))) (gName i)) := by
  refine ⟨fun pins s σ H D I h => ?_⟩
  rw [exec_Assign_Name_used _ _ _ _ hsw]
  refine wpAny_bind (wpAny_standAt (wpAny_bind ?_))
  show wpAny _ X.A (do let _ ← comprehension (.DictComp kx vx [⟨tg, iter, ifs, 0⟩] scope pos) scope X.env (firstIterPos [⟨tg, iter, ifs, 0⟩] pos) newDict false (eval iter X.env) (some (assign (.Name y py) X.env))) _ _ s
  have h : tDc wi g tt tk tv (own.map (·.2)) σ H (fun x H1 => gName i x σ H1 D.nx) := h
  refine wpAny_bind (thn (dc_core (Qf := fun _ s' => SP X pins D .next s') hc hN I hi ok hg ht hk he hs h fun L C s' m H' I' q hn f => ?_) fun _ s' hq => wpAny_pure (wpAny_pure hq))
  show wpAny _ _ (assign (.Name y py) X.env (.ref L)) _ _ _
  refine wpAny_assign_Name (store_ok2 (v := V.ref L) I' hN hy (.inl hyl) rfl (fun s2 I2 ⟨a, sb, ha⟩ => ?_) (.inr hyl))
  obtain ⟨f0, f1, f2, f3, f4, f5⟩ := f
  have haC : C ≠ a := by
    rcases ha with z | z
    · rw [z]; exact f1
    · exact fun e => f4 y a z e.symm
  refine ⟨m, hn.sameBut sb haC, fun h3 sb3 => ?_⟩
  exact ⟨_, H', I2.turned (t' := s2.toks) (fun b o hb e => (sb3.2 b hb).trans e) f0 f1 f3 f4 f5, q⟩
end
section
variable {X : Cx} {CX : CXT} {k : Nat} {f : Addr} {sp : Sp} {E : XK} {x : Str} {p pos sp_ : Pos} {e : Expr} {te : TE}
theorem pe_callS1K (K : PySem.W.Frag) (F : FnR X.prog X.w X.K X.mg X.base CX k f sp) (hr : Room k X.A) (hk : PySem.W.keepIn X.K (.ref f) = true) (hg : Gl X x) (hm : X.mg x = some (.ref f)) (hx : Passes CX X E) (he : PE X e te) (hd : (x == ("__debug__" : Str)) = false := by decide)
    (hst : starEach [.Starred e sp_] X.env = [(true, eval e X.env)] := by rfl) (hK : X.K = K := by rfl) :
    PE X (.Call (.Name x p) [.Starred e sp_] [] pos) (fun σ H Q => te σ H fun y H1 => ∃ a xs, y = V.ref a ∧ (SqT K H1 a xs ∨ SqL K H1 a xs) ∧ sp xs H1 Q E) := hK ▸ StX.pe_callS1 F hr hk hg hm hx he hd hst
end
end XL
set_option Elab.async false
set_option linter.all false
set_option maxRecDepth 100000
set_option maxHeartbeats 4000000
/-! XSmI: a staticmethod called through an instance (o.m(..)). -/
namespace XL
open PySem PySem.Spec PyProof.Rows L2
/-- m is a staticmethod of the class at C: its def at g, as an instance reads it -/
def SMetI (K : PySem.W.Frag) (C : Addr) (m : Str) (g : Addr) : Prop := ∃ p, PySem.W.findIn K (.ref C) m = some (some (.ref p)) ∧ PySem.W.typeIn K (.ref p) = some (.type "staticmethod") ∧ PySem.W.specialIn K (.ref p) "__get__" = some (some (.builtin "staticmethod.__get__")) ∧
  PySem.W.takesIn K (.ref p) = some false ∧ (∃ rest, PySem.W.recIn K p "staticmethod" = some (.ref g :: rest)) ∧ PySem.W.keepIn K (.ref g) = true
section
variable {X : Cx} {CX : CXT} {k : Nat} {C g : Addr} {fd : FuncData} {ps : List Str} {sp : Sp} {E : XK} {o e : Expr} {es : List Expr} {m : Str} {pos apos : Pos} {ta : TE} {t : TA} {pl : Sem Bool}
theorem pe_smethI (he : PE X o ta) (cl : Cls X.K C) (c : SMetI X.K C m g) (F : FnOk X.prog X.w X.K X.mg X.base CX k g fd ps sp) (hr : Room k X.A) (hb : Binds X.K fd ps []) (hx : Passes CX X E) (ha : PA X (e :: es) t)
    (hcn : PySem.W.copiedNames.contains m = false := by decide +kernel)
    (hst : starEach (e :: es) X.env = (false, eval e X.env) :: starEach es X.env := by rfl) (hpl : (backTo pos (starEach es X.env)).any (·.1) = false := by rfl)
    (ht : eval (.Call (.Attribute o m apos) (e :: es) [] pos) X.env = (do
      let ov ← eval o X.env
      standAt apos.atName
      let (f, first) ← holding [ov] (getMethod ov m pl)
      callWith pos f first (backTo pos (starEach (e :: es) X.env)) (backToKw pos (keywordEach [] X.env))) := by rfl) :
    PE X (.Call (.Attribute o m apos) (e :: es) [] pos) (fun σ H Q => ta σ H fun x H1 => ∃ a dx fs, x = .ref a ∧ H1 a = some (.ins C dx fs) ∧ fs.lookup m = none ∧ t σ H1 fun vs H2 => sp vs H2 Q E) := by
  refine ⟨fun pins s σ H Q I h => ?_⟩
  refine PySem.W.methodCall_KW (pl := pl) (thn (he.run pins s σ H _ I h) fun u s1 ⟨x, H1, I1, rx, a, dx, fs, ex, ea, l, q⟩ => ?_) ht
  subst ex
  obtain rfl : u = Value.ref a := rx
  obtain ⟨p, h1, h2, h3, h4, ⟨rest, h5⟩, h6⟩ := c
  obtain ⟨mA, O, r, _, _, _⟩ := ins_get I1.hok ea
  have hn : mA m = none := RelO.none_of (by rw [← l]; exact r m)
  obtain ⟨od, J, hl⟩ := O.look
  have pg := PySem.W.plainGet_of (cl.get m)
  refine PySem.W.method_usual (r := some (.ref p)) I1.kIn J pg.1 pg.2 h1 (by simp only [Option.all_some, h2, Option.any_some]; decide +kernel) ?_
  refine PySem.W.get_bind I1.kIn J pg.1 (PySem.W.findObj_fn cl.hd h1 h3 h4 hcn (by rw [hl, hn])) pg.2 ?_
  refine wpAny_call (PySem.W.sm_get (s := { s1 with toks := s1.toks + 1 }) I1.kIn h5 (PySem.W.handed_on rfl ?_))
  have I2 : L2.Inv X pins σ H1 { s1 with toks := s1.toks + 1 } := I1.tok _
  refine PySem.W.callWith_K (h₀ := X.base) I2.ok.mod.kin h6 (thn (ha.run pos pins _ σ H1 _ I2 q) fun us s3 ⟨vs, H2, I3, r3, q3⟩ => ⟨I3.kIn, ?_⟩) hst hpl
  exact run_fn (us := us) (vs := vs) (dvs := []) F hr hb .nil hx I3 r3 (show sp (vs ++ []) H2 Q E by rw [List.append_nil]; exact q3)
end
end XL
set_option Elab.async false
set_option linter.all false
set_option maxRecDepth 100000
set_option maxHeartbeats 4000000
/-! XTryMix: several except clauses, each with a name or without (after XTryAs). -/
namespace XL
open PySem PySem.Spec PyProof.Rows L2
/-- what the clauses wish of an exception of the body, one after the other -/
def wManyMx (K : PySem.W.Frag) (Wout : WX) (D : Ends) : List (Value × Option Nat × (Addr → Value → Option Addr → TS)) → WX
  | [] => Wout
  | (c, some i, ts) :: r => fun cls d σ H => ∃ b, PySem.W.exmOne K cls c = some b ∧ (b = true → ∀ a, H a = none → ts a cls d { nx := fun σ' H' => D.nx (σ'.set i none) H', rt := D.rt, bk := fun σ' H' => D.bk (σ'.set i none) H', ct := fun σ' H' => D.ct (σ'.set i none) H' } (σ.set i (some (.ref a))) H) ∧ (b = false → wManyMx K Wout D r cls d σ H)
  | (c, none, ts) :: r => fun cls d σ H => ∃ b, PySem.W.exmOne K cls c = some b ∧ (b = true → ∀ a, H a = none → ts a cls d D σ H) ∧ (b = false → wManyMx K Wout D r cls d σ H)
inductive HdsMx (X : Cx) : List ExceptHandler → List (Value × Option Nat × (Addr → Value → Option Addr → TS)) → Prop
  | nil : HdsMx X [] []
  | cons {x n : Str} {c : Value} {i : Nat} {ts : Addr → Value → Option Addr → TS} {b₀ : Stmt} {suite : List Stmt} {np pos' : Pos} {hds : List ExceptHandler} {l : List (Value × Option Nat × (Addr → Value → Option Addr → TS))} (hi : X.N[i]? = some n) (hln : X.env.kindOf n = some .local) (hc : Names X x c)
      (hsu : ∀ (a : Addr) (oe : Obj) (cls : Value) (d : Option Addr) (pn : List (Addr × Obj)), Zc cls d oe → (∃ vs, oe.data = .fields vs) → PSs (X.suite a ((a, oe) :: pn)) (b₀ :: suite) (ts a cls d)) (r : HdsMx X hds l) :
      HdsMx X (.ExceptHandler (some (.Name x np)) (some n) (b₀ :: suite) pos' :: hds) ((c, some i, ts) :: l)
  | consN {x : Str} {c : Value} {ts : Addr → Value → Option Addr → TS} {b₀ : Stmt} {suite : List Stmt} {np pos' : Pos} {hds : List ExceptHandler} {l : List (Value × Option Nat × (Addr → Value → Option Addr → TS))} (hc : Names X x c)
      (hsu : ∀ (a : Addr) (oe : Obj) (cls : Value) (d : Option Addr) (pn : List (Addr × Obj)), Zc cls d oe → (∃ vs, oe.data = .fields vs) → PSs (X.suite a ((a, oe) :: pn)) (b₀ :: suite) (ts a cls d)) (r : HdsMx X hds l) :
      HdsMx X (.ExceptHandler (some (.Name x np)) none (b₀ :: suite) pos' :: hds) ((c, none, ts) :: l)
section
variable {X : Cx} {body : List Stmt} {h₀ : ExceptHandler} {hds : List ExceptHandler} {l : List (Value × Option Nat × (Addr → Value → Option Addr → TS))} {pos : Pos} {tb : WX → TS} {Wout : WX}
theorem ps_try_manyMx (hs : X.stack = X.env :: X.outer) (hf : X.env.frame = some X.env.locals) (hN : X.N.Nodup) (tk : Takes X Wout)
    (hb : ∀ (W : WX) (pn : List (Addr × Obj)) (xe : Value → Shared → Prop), Takes (X.tr pn xe) W → PassesOwn (model X.prog X.w) X.A X.env xe → PSs (X.tr pn xe) body (tb W))
    (hh : HdsMx X (h₀ :: hds) l) : PS X (.Try body (h₀ :: hds) [] [] pos) (fun D σ H => tb (wManyMx X.K Wout D l) D σ H) := by
  refine ⟨fun pins s σ H D I h => ?_⟩
  have ok := I.ok
  have hfr : X.A.frames = some (X.env :: X.outer) := by rw [ok.frames, hs]
  refine wpAny_Try_except ?_
  refine wpAny_mono ((hb (wManyMx X.K Wout D l) (X.pn ++ pins) (fun e s₁ => wpAny (model X.prog X.w) X.A (noteFrame e X.env) (fun _ s₂ => wpAny (model X.prog X.w) X.A (setFlight e none) (fun _ s₃ =>
    wpAny (model X.prog X.w) X.A (handleBy e X.env (h₀ :: hds)) (SP X pins D) X.xe s₃) X.xe s₂) X.xe s₁) (fun u s' xx => ?_) PassesOwn.looking).run [] s σ H D (I.toTry _) h) (fun f s1 hsp => ?_) (fun e s1 he => he)
  · -- the catch
    obtain ⟨a, B, sI, pins', σ', H', cls, d, rfl, J', nb, up, sky, na, os, ag, w⟩ := xx
    have J : Inv X pins σ' H' sI := J'.ofTry ok
    have sky' : Sky B (X.env :: X.outer) a (Zc cls d) X.env.locals s'.heap := by rw [← hs]; exact sky
    show wpAny (model X.prog X.w) X.A (noteFrame (.ref a) X.env) _ _ _
    refine Sky.land Zc.steady hfr hf sky' fun h3 fl3 up3 => ?_
    have J3 : Inv X pins σ' H' { s' with heap := h3 } := J.landed nb fl3.1 (up.trans up3) os ag
    obtain ⟨oe3, vs3, he3, hz3, hd3⟩ := fl3.there
    have notFr : ∀ {h : Heap} {o : Obj} {vs : Array Value}, h.FunFrames B (X.env :: X.outer) → h.get? a = some o → o.data = .fields vs → a ∉ frs (X.env :: X.outer) := fun {h o vs} ff e dd hm => by
      obtain ⟨_, o', e', hnf⟩ := ff.mem hm
      rw [e] at e'; cases e'
      exact hnf _ dd
    have nfr := notFr fl3.2.2.1 he3 hd3
    have nL : a ≠ X.env.locals := fun z => nfr (List.mem_filterMap.mpr ⟨X.env, List.mem_cons_self, by rw [hf, z]⟩)
    have nF : a ∉ X.fs := fun hm => by
      obtain ⟨e, he, q⟩ := List.mem_filterMap.mp hm
      exact nfr (List.mem_filterMap.mpr ⟨e, List.mem_cons_of_mem _ he, q⟩)
    have S3 := J3.suite he3 hd3 na nL nF
    have go : ∀ {hds' : List ExceptHandler} {l' : List (Value × Option Nat × (Addr → Value → Option Addr → TS))}, HdsMx X hds' l' → wManyMx X.K Wout D l' cls d σ' H' →
        wpAny (model X.prog X.w) X.A (handleBy (.ref a) X.env hds') (SP X pins D) X.xe { s' with heap := h3 } := by
      intro hds' l' hk
      induction hk with
      | nil =>
        intro w
        refine wpAny_handleBy_nil ?_
        obtain ⟨k1, k2, k3, oe, vs, T, oT, ts', he, hz, hd, h1, hr⟩ := id fl3
        unfold PySem.passOn
        refine wpAny_bind (wpAny_field he hd h1 ?_)
        rw [if_neg (show ¬ ((Value.ref T == Value.none) = true) from by simp)]
        have fin : wpAny (model X.prog X.w) X.A (setFlight (.ref a) X.env.frame) (fun _ s4 => wpAny (model X.prog X.w) X.A (throw (.ref a) : Sem Flow) (SP X pins D) X.xe s4) X.xe { s' with heap := h3 } := by
          rw [hf]
          refine HandSPX.setFlight_upZ fl3 fun h4 hh4 up4 => wpAny_throw (tk _ _ ?_)
          exact ⟨a, B, sI, pins, σ', H', cls, d, rfl, J, nb, (up.trans up3).trans up4, .inr (.inr (by rw [hs]; exact hh4)), na, os, ag, w⟩
        first
          | exact wpAny_bind (wpAny_pure (wpAny_bind fin))
          | exact wpAny_bind fin
      | @cons x n c i ts b₀ suite np pos' hds2 l2 hi hln hc hsu r ih =>
        intro w
        have hloc : Loc X.env.scope n := .inl hln
        obtain ⟨b, hb1, hyes, hno⟩ := w
        refine wpAny_handleBy_cons (codeAny_handlers_test ?_) (by intro q; cases q)
        have LT : PySem.W.Looks (model X.prog X.w) h3 (typeOf (.ref a)) cls := fun A Q E s k q => wpAny_typeOf_ref (k _ _ he3) (by rw [hz3.1]; exact q)
        have LM := PySem.W.exm_one (M := model X.prog X.w) (J3.kIn) LT hb1
        have test : ∀ {Q : Value → Shared → Prop} {E : Value → Shared → Prop}, Q c { s' with heap := h3 } → wpAny (model X.prog X.w) (X.A.mark (some (.ref a))) (eval (.Name x np) X.env) Q E { s' with heap := h3 } := fun {Q E} q => by
          obtain ⟨hg, hdbg, hm | ⟨hm, hv, hnn⟩⟩ := hc
          · exact ld_glob (X := X.suite a ((a, oe3) :: (X.pn ++ pins))) S3 hg hm q hdbg
          · exact ld_blt (X := X.suite a ((a, oe3) :: (X.pn ++ pins))) S3 hg hm hv q hnn hdbg
        refine test (LM.here ?_)
        cases b with
        | true =>
          refine codeAny_handlers_suite_as ?_
          refine HandSPX.lands_againZ fl3 fun h4 fl4 up4 => ?_
          have J4 : Inv X pins σ' H' { s' with heap := h4 } := J.landed nb fl4.1 ((up.trans up3).trans up4) os ag
          obtain ⟨oe4, vs4, he4, hz4, hd4⟩ := fl4.there
          have S4 := J4.suite he4 hd4 na nL nF
          refine store_ok (X := X.suite a ((a, oe4) :: (X.pn ++ pins))) (v := .ref a) S4 hN hi hloc rfl (fun s5 S5 => ?_) (.inr hln)
          refine wpAny_mono ((hsu a oe4 cls d (X.pn ++ pins) hz4 ⟨_, hd4⟩).run [] s5 _ H' _ S5 (hyes rfl a na)) (fun f s6 hsp => ?_) (fun _ _ z => False.elim z)
          have end_ : ∀ {σ6 : St} {H6 : Hp} {Q : Shared → Prop}, Inv (X.suite a ((a, oe4) :: (X.pn ++ pins))) [] σ6 H6 s6 → (∀ s7, Inv X pins (σ6.set i none) H6 s7 → Q s7) →
              wpAny (model X.prog X.w) X.A (do bindName X.env n .none; unbindBehindTheSuite X.env n pos') (fun _ s7 => Q s7) X.xe s6 := fun {σ6 H6 Q} S6 hq => gone_ok (S6.unsuite ok) hN hi hln hq
          cases f with
          | next =>
            obtain ⟨σ6, H6, S6, q6⟩ := hsp
            exact end_ S6 fun s7 J7 => ⟨_, _, J7, q6⟩
          | brk =>
            obtain ⟨σ6, H6, S6, q6⟩ := hsp
            exact end_ S6 fun s7 J7 => ⟨_, _, J7, q6⟩
          | cont =>
            obtain ⟨σ6, H6, S6, q6⟩ := hsp
            exact end_ S6 fun s7 J7 => ⟨_, _, J7, q6⟩
          | ret u =>
            obtain ⟨v6, σ6, H6, S6, r6, q6⟩ := hsp
            exact end_ S6 fun s7 J7 => ⟨_, _, _, J7, r6, q6⟩
        | false =>
          show wpAny _ X.A (handleBy (.ref a) X.env hds2) _ _ _
          exact ih (hno rfl)
      | @consN x c ts b₀ suite np pos' hds2 l2 hc hsu r ih =>
        intro w
        obtain ⟨b, hb1, hyes, hno⟩ := w
        refine wpAny_handleBy_cons (codeAny_handlers_test ?_) (by intro q; cases q)
        have LT : PySem.W.Looks (model X.prog X.w) h3 (typeOf (.ref a)) cls := fun A Q E s k q => wpAny_typeOf_ref (k _ _ he3) (by rw [hz3.1]; exact q)
        have LM := PySem.W.exm_one (M := model X.prog X.w) (J3.kIn) LT hb1
        have test : ∀ {Q : Value → Shared → Prop} {E : Value → Shared → Prop}, Q c { s' with heap := h3 } → wpAny (model X.prog X.w) (X.A.mark (some (.ref a))) (eval (.Name x np) X.env) Q E { s' with heap := h3 } := fun {Q E} q => by
          obtain ⟨hg, hdbg, hm | ⟨hm, hv, hnn⟩⟩ := hc
          · exact ld_glob (X := X.suite a ((a, oe3) :: (X.pn ++ pins))) S3 hg hm q hdbg
          · exact ld_blt (X := X.suite a ((a, oe3) :: (X.pn ++ pins))) S3 hg hm hv q hnn hdbg
        refine test (LM.here ?_)
        cases b with
        | true =>
          refine codeAny_handlers_suite ?_
          refine HandSPX.lands_againZ fl3 fun h4 fl4 up4 => ?_
          have J4 : Inv X pins σ' H' { s' with heap := h4 } := J.landed nb fl4.1 ((up.trans up3).trans up4) os ag
          obtain ⟨oe4, vs4, he4, hz4, hd4⟩ := fl4.there
          have S4 := J4.suite he4 hd4 na nL nF
          refine wpAny_mono ((hsu a oe4 cls d (X.pn ++ pins) hz4 ⟨_, hd4⟩).run [] _ _ H' _ S4 (hyes rfl a na)) (fun f s6 hsp => ?_) (fun _ _ z => False.elim z)
          have back : ∀ {σ6 : St} {H6 : Hp}, Inv (X.suite a ((a, oe4) :: (X.pn ++ pins))) [] σ6 H6 s6 → Inv X pins σ6 H6 s6 := fun S6 => S6.unsuite ok
          cases f with
          | next => exact let ⟨_, _, S6, q6⟩ := hsp; ⟨_, _, back S6, q6⟩
          | brk => exact let ⟨_, _, S6, q6⟩ := hsp; ⟨_, _, back S6, q6⟩
          | cont => exact let ⟨_, _, S6, q6⟩ := hsp; ⟨_, _, back S6, q6⟩
          | ret u => exact let ⟨_, _, _, S6, r6, q6⟩ := hsp; ⟨_, _, _, back S6, r6, q6⟩
        | false =>
          show wpAny _ X.A (handleBy (.ref a) X.env hds2) _ _ _
          exact ih (hno rfl)
    exact go hh w
  · cases f with
    | next =>
      obtain ⟨σ', H', J', q⟩ := hsp
      exact wpAny_execs_nil ⟨σ', H', J'.ofTry ok, q⟩
    | brk =>
      obtain ⟨σ', H', J', q⟩ := hsp
      exact ⟨σ', H', J'.ofTry ok, q⟩
    | cont =>
      obtain ⟨σ', H', J', q⟩ := hsp
      exact ⟨σ', H', J'.ofTry ok, q⟩
    | ret u =>
      obtain ⟨v, σ', H', J', r, q⟩ := hsp
      exact ⟨v, σ', H', J'.ofTry ok, r, q⟩
end
end XL
set_option Elab.async false
set_option linter.all false
set_option maxRecDepth 100000
set_option maxHeartbeats 4000000
/-! XSlM: l[lo:hi] of a list or of a tuple; a walk by either of two rules. -/
namespace XL
open PySem PySem.Spec PyProof.Rows L2
section
variable {X : Cx}
def rSlM (K : PySem.W.Frag) : V → Option Int → Option Int → Hp → VK → Prop := fun x lo hi H Q => rSlL K x lo hi H Q ∨ rSlA K x lo hi H Q
theorem sl_mixK (K : PySem.W.Frag) (h : X.K = K := by rfl) : SlR X (rSlM K) := by
  subst h
  intro pins s σ H x v vl vu lo hi sl Q I rx hs pl pu h
  rcases h with h | h
  · exact sl_list pins s σ H x v vl vu lo hi sl Q I rx hs pl pu h
  · exact sl_tupA pins s σ H x v vl vu lo hi sl Q I rx hs pl pu h
theorem pi_or {g e : Expr} {t u : TI} (h : PI X g e t) (k : PI X g e u) : PI X g e (fun σ H R => t σ H R ∨ u σ H R) := ⟨fun pins s σ H R I q => q.elim (h.run pins s σ H R I) (k.run pins s σ H R I)⟩
end
end XL
set_option Elab.async false
set_option linter.all false
set_option maxRecDepth 100000
set_option maxHeartbeats 4000000
/-! XLiS: list(text): its signs. -/
namespace XL
open PySem PySem.Spec PyProof.Rows L2
section
variable {X : Cx}
def sgV (z : Str) : List V := z.cps.toList.map fun c => V.str ⟨#[c]⟩
def rLiS : List V → Hp → VK → Prop := fun xs H Q => ∃ z : Str, xs = [.str z] ∧ z.cps.size ≤ sizeLine ∧ ∀ p, H p = none → Q (.ref p) (upd H p (.lst (sgV z)))
theorem vals_sg {z : Str} : ∀ (cs : List Nat) (us : List Value), us.length = cs.length → (∀ (j : Nat) (v : Value), us[j]? = some v → ∃ (c : Nat) (t : Tok), cs[j]? = some c ∧ v = Value.str ⟨#[c]⟩ t) → Vals (cs.map fun c => V.str ⟨#[c]⟩) us
  | [], [], _, _ => .nil
  | c :: cs, u :: us, h, hj => by
    refine .cons ?_ (vals_sg (z := z) cs us (by simpa using h) fun j v e => hj (j + 1) v (by simpa using e))
    obtain ⟨c', t, h1, h2⟩ := hj 0 u rfl
    cases h1
    exact ⟨t, h2⟩
  | [], _ :: _, h, _ => by simp at h
  | _ :: _, [], h, _ => by simp at h
theorem call_list_sg (hcalm : X.calm = true) : CallR X (.type "list") rLiS := by
  intro pins s σ H xs us Q I r q
  obtain ⟨z, rfl, hz, q⟩ := q
  obtain ⟨u, rfl, rx⟩ := vals1 r
  obtain ⟨t, rfl⟩ := rx
  refine call_list_str (I.ok.hd hcalm) z t (fun h' tk acc c' hk hD hacc => ?_) hz
  have hv : Vals (sgV z) acc.toList := vals_sg (z := z) z.cps.toList acc.toList (by rw [Array.length_toList, Array.length_toList]; exact hacc.1) fun j v e => by
    have := hacc.2 j v (by rw [← Array.getElem?_toList]; exact e)
    obtain ⟨c, t, h1, h2⟩ := this
    exact ⟨c, t, by rw [Array.getElem?_toList]; exact h1, h2⟩
  refine ⟨.ref s.heap.objs.size, upd H s.heap.objs.size (.lst (sgV z)), I.laid (t' := tk) hk (Nat.le_refl _)
    (show ObjOk X.prog X.w _ _ _ (.lst (sgV z)) from ⟨by unfold sgV; rw [List.length_map, Array.length_toList]; exact hz, acc.toList, c', hv, by rw [Array.toArray_toList]; exact hD⟩), rfl, q _ (I.hok.fresh (Nat.le_refl _))⟩
theorem call_list_sgO (hcalm : X.calm = true) (K : PySem.W.Frag) (h : X.K = K := by rfl) : CallR X (.type "list") (fun xs H Q => yList K xs H Q ∨ rLiS xs H Q) := CallR.or (call_listK K h) (call_list_sg hcalm)
end
end XL
set_option Elab.async false
set_option linter.all false
set_option maxRecDepth 100000
set_option maxHeartbeats 4000000
namespace K57
open PySem PySem.Spec PyProof.Rows L2 XL
def topS (i : Nat) : Stmt := PySem.Challenge.pw_drawnanew_k57_stub_of_child.main.body.getD i (.Pass ⟨0, 0, 0, 0⟩)
abbrev s_is_name : Stmt := topS 8
theorem sc_is_name : FnScope ["thing", "sign"] ["thing"] (defScope s_is_name) := ⟨rfl, rfl, rfl, by decide +kernel, rfl, by decide +kernel, by decide +kernel⟩
abbrev s_is_number : Stmt := topS 9
theorem sc_is_number : FnScope ["thing", "low", "high"] ["thing", "low", "high"] (defScope s_is_number) := ⟨rfl, rfl, rfl, by decide +kernel, rfl, by decide +kernel, by decide +kernel⟩
abbrev s_is_part : Stmt := topS 13
theorem sc_is_part : FnScope ["part"] ["part"] (defScope s_is_part) := ⟨rfl, rfl, rfl, by decide +kernel, rfl, by decide +kernel, by decide +kernel⟩
abbrev s_check_form : Stmt := topS 14
theorem sc_check_form : FnScope ["parts", "waiting", "deepest", "part", "level", "at"] ["parts"] (defScope s_check_form) := ⟨rfl, rfl, rfl, by decide +kernel, rfl, by decide +kernel, by decide +kernel⟩
abbrev s_names_of : Stmt := topS 15
theorem sc_names_of : FnScope ["parts", "found", "piece", "told"] ["parts"] (defScope s_names_of) := ⟨rfl, rfl, rfl, by decide +kernel, rfl, by decide +kernel, by decide +kernel⟩
abbrev s_check_row : Stmt := topS 18
theorem sc_check_row : FnScope ["row", "seen", "item"] ["row"] (defScope s_check_row) := ⟨rfl, rfl, rfl, by decide +kernel, rfl, by decide +kernel, by decide +kernel⟩
abbrev s_text_shape : Stmt := topS 20
theorem sc_text_shape : FnScope ["form"] ["form"] (defScope s_text_shape) := ⟨rfl, rfl, rfl, by decide +kernel, rfl, by decide +kernel, by decide +kernel⟩
abbrev s_button_shape : Stmt := topS 21
theorem sc_button_shape : FnScope ["word"] ["word"] (defScope s_button_shape) := ⟨rfl, rfl, rfl, by decide +kernel, rfl, by decide +kernel, by decide +kernel⟩
abbrev s_col_shape : Stmt := topS 22
theorem sc_col_shape : FnScope ["parts"] ["parts"] (defScope s_col_shape) := ⟨rfl, rfl, rfl, by decide +kernel, rfl, by decide +kernel, by decide +kernel⟩
abbrev s_part_shapes : Stmt := topS 23
theorem sc_part_shapes : FnScope ["shape"] ["shape"] (defScope s_part_shapes) := ⟨rfl, rfl, rfl, by decide +kernel, rfl, by decide +kernel, by decide +kernel⟩
abbrev s_numbered : Stmt := topS 24
theorem sc_numbered : FnScope ["shape", "found", "part"] ["shape"] (defScope s_numbered) := ⟨rfl, rfl, rfl, by decide +kernel, rfl, by decide +kernel, by decide +kernel⟩
abbrev s_good_form : Stmt := topS 30
theorem sc_good_form : FnScope ["parts", "names", "name"] ["parts", "names"] (defScope s_good_form) := ⟨rfl, rfl, rfl, by decide +kernel, rfl, by decide +kernel, by decide +kernel⟩
abbrev s_good_rows : Stmt := topS 31
theorem sc_good_rows : FnScope ["rows", "most", "size", "row"] ["rows", "most", "size"] (defScope s_good_rows) := ⟨rfl, rfl, rfl, by decide +kernel, rfl, by decide +kernel, by decide +kernel⟩
abbrev s_fresh : Stmt := topS 32
theorem sc_fresh : FnScope ["names", "earlier", "at", "name"] ["names", "earlier"] (defScope s_fresh) := ⟨rfl, rfl, rfl, by decide +kernel, rfl, by decide +kernel, by decide +kernel⟩
abbrev s_different : Stmt := topS 33
theorem sc_different : FnScope ["words", "at", "word"] ["words"] (defScope s_different) := ⟨rfl, rfl, rfl, by decide +kernel, rfl, by decide +kernel, by decide +kernel⟩
abbrev s_good_told : Stmt := topS 34
theorem sc_good_told : FnScope ["rows", "most", "earlier", "name", "size", "start", "row"] ["rows", "most", "earlier"] (defScope s_good_told) := ⟨rfl, rfl, rfl, by decide +kernel, rfl, by decide +kernel, by decide +kernel⟩
abbrev s_good_menu : Stmt := topS 35
theorem sc_good_menu : FnScope ["menu", "row"] ["menu"] (defScope s_good_menu) := ⟨rfl, rfl, rfl, by decide +kernel, rfl, by decide +kernel, by decide +kernel⟩
abbrev s_good_shape : Stmt := topS 36
theorem sc_good_shape : FnScope ["shape", "level", "names", "word", "part"] ["shape", "level", "names"] (defScope s_good_shape) := ⟨rfl, rfl, rfl, by decide +kernel, rfl, by decide +kernel, by decide +kernel⟩
abbrev s_good_children : Stmt := topS 37
theorem sc_good_children : FnScope ["shape", "names", "form"] ["shape", "names"] (defScope s_good_children) := ⟨rfl, rfl, rfl, by decide +kernel, rfl, by decide +kernel, by decide +kernel⟩
abbrev s_part_numbers : Stmt := topS 38
theorem sc_part_numbers : FnScope ["shape", "number", "parts", "out", "following", "part"] ["shape", "number"] (defScope s_part_numbers) := ⟨rfl, rfl, rfl, by decide +kernel, rfl, by decide +kernel, by decide +kernel⟩
abbrev s_Component_init : Stmt := inClass (topS 39) 0
theorem sc_Component_init : FnScope ["self", "name", "shape", "takes", "hears", "cells", "asks", "gives", "effects", "deeds", "looks", "island", "deed", "number", "part", "row"] ["self", "name", "shape", "takes", "hears", "cells", "asks", "gives", "effects", "deeds", "looks", "island"] (defScope s_Component_init) := ⟨rfl, rfl, rfl, by decide +kernel, rfl, by decide +kernel, by decide +kernel⟩
abbrev s_Component_check_told : Stmt := inClass (topS 39) 1
theorem sc_Component_check_told : FnScope ["self", "name", "names", "form", "fence", "row", "size"] ["self"] (defScope s_Component_check_told) := ⟨rfl, rfl, rfl, by decide +kernel, rfl, by decide +kernel, by decide +kernel⟩
abbrev s_Component_check_works : Stmt := inClass (topS 39) 2
theorem sc_Component_check_works : FnScope ["self", "names", "form", "word", "told", "handed", "row", "name", "size", "sets", "goes"] ["self"] (defScope s_Component_check_works) := ⟨rfl, rfl, rfl, by decide +kernel, rfl, by decide +kernel, by decide +kernel⟩
abbrev s_Component_within : Stmt := inClass (topS 39) 3
theorem sc_Component_within : FnScope ["told", "names", "name"] ["told", "names"] (defScope s_Component_within) := ⟨rfl, rfl, rfl, by decide +kernel, rfl, by decide +kernel, by decide +kernel⟩
abbrev s_Component_good_island : Stmt := inClass (topS 39) 4
theorem sc_Component_good_island : FnScope ["island"] ["island"] (defScope s_Component_good_island) := ⟨rfl, rfl, rfl, by decide +kernel, rfl, by decide +kernel, by decide +kernel⟩
abbrev s_Component_good_deed : Stmt := inClass (topS 39) 5
theorem sc_Component_good_deed : FnScope ["self", "sets", "goes", "names", "cells", "row"] ["self", "sets", "goes"] (defScope s_Component_good_deed) := ⟨rfl, rfl, rfl, by decide +kernel, rfl, by decide +kernel, by decide +kernel⟩
abbrev s_spare_names : Stmt := topS 42
theorem sc_spare_names : FnScope ["barred", "count", "out", "told", "letter"] ["barred", "count"] (defScope s_spare_names) := ⟨rfl, rfl, rfl, by decide +kernel, rfl, by decide +kernel, by decide +kernel⟩
abbrev s_words_of : Stmt := topS 43
theorem sc_words_of : FnScope ["component", "words", "deed", "shape"] ["component"] (defScope s_words_of) := ⟨rfl, rfl, rfl, by decide +kernel, rfl, by decide +kernel, by decide +kernel⟩
abbrev s_one_more : Stmt := topS 44
theorem sc_one_more : FnScope ["cell"] ["cell"] (defScope s_one_more) := ⟨rfl, rfl, rfl, by decide +kernel, rfl, by decide +kernel, by decide +kernel⟩
abbrev s_stub : Stmt := topS 45
theorem sc_stub : FnScope ["component", "child", "heard", "spare", "taken", "cell", "own", "parts", "deed", "flip", "told", "size", "form", "at", "row"] ["component", "child"] (defScope s_stub) := ⟨rfl, rfl, rfl, by decide +kernel, rfl, by decide +kernel, by decide +kernel⟩
abbrev s_mixed : Stmt := topS 47
theorem sc_mixed : FnScope ["_law_number_here", "_law_turn", "_law_first", "_law_second"] ["_law_number_here", "_law_turn"] (defScope s_mixed) := ⟨rfl, rfl, rfl, by decide +kernel, rfl, by decide +kernel, by decide +kernel⟩
abbrev s_bag : Stmt := topS 48
theorem sc_bag : FnScope ["_law_script", "_law_cell", "_law_numbers", "_law_seed", "_law_at"] ["_law_script"] (defScope s_bag) := ⟨rfl, rfl, rfl, by decide +kernel, rfl, by decide +kernel, by decide +kernel⟩
abbrev s_pick : Stmt := topS 49
theorem sc_pick : FnScope ["_law_bag_here", "_law_many", "_law_turn", "_law_cell", "_law_worth"] ["_law_bag_here", "_law_many"] (defScope s_pick) := ⟨rfl, rfl, rfl, by decide +kernel, rfl, by decide +kernel, by decide +kernel⟩
abbrev s_choice : Stmt := topS 50
theorem sc_choice : FnScope ["_law_bag_here", "_law_things"] ["_law_bag_here", "_law_things"] (defScope s_choice) := ⟨rfl, rfl, rfl, by decide +kernel, rfl, by decide +kernel, by decide +kernel⟩
abbrev s_mingled : Stmt := topS 51
theorem sc_mingled : FnScope ["_law_bag_here", "_law_things", "_law_left", "_law_out", "_law_step"] ["_law_bag_here", "_law_things"] (defScope s_mingled) := ⟨rfl, rfl, rfl, by decide +kernel, rfl, by decide +kernel, by decide +kernel⟩
abbrev s_sorted : Stmt := topS 52
theorem sc_sorted : FnScope ["_law_things", "_law_out", "_law_thing", "_law_at"] ["_law_things"] (defScope s_sorted) := ⟨rfl, rfl, rfl, by decide +kernel, rfl, by decide +kernel, by decide +kernel⟩
abbrev s_number : Stmt := topS 53
theorem sc_number : FnScope ["_law_thing"] ["_law_thing"] (defScope s_number) := ⟨rfl, rfl, rfl, by decide +kernel, rfl, by decide +kernel, by decide +kernel⟩
abbrev s_new_name : Stmt := topS 54
theorem sc_new_name : FnScope ["_law_bag_here", "_law_used", "_law_letters", "_law_told", "_law_near_here", "_law_at", "_law_tails", "_law_step", "_law_k", "_law_tail"] ["_law_bag_here", "_law_used"] (defScope s_new_name) := ⟨rfl, rfl, rfl, by decide +kernel, rfl, by decide +kernel, by decide +kernel⟩
abbrev s_form : Stmt := topS 55
theorem sc_form : FnScope ["_law_bag_here", "_law_readable", "_law_levels", "_law_way", "_law_first", "_law_second"] ["_law_bag_here", "_law_readable", "_law_levels"] (defScope s_form) := ⟨rfl, rfl, rfl, by decide +kernel, rfl, by decide +kernel, by decide +kernel⟩
abbrev s_parts : Stmt := topS 56
theorem sc_parts : FnScope ["_law_shape"] ["_law_shape"] (defScope s_parts) := ⟨rfl, rfl, rfl, by decide +kernel, rfl, by decide +kernel, by decide +kernel⟩
abbrev s_law_numbered : Stmt := topS 57
theorem sc_law_numbered : FnScope ["_law_shape", "_law_out", "_law_part"] ["_law_shape"] (defScope s_law_numbered) := ⟨rfl, rfl, rfl, by decide +kernel, rfl, by decide +kernel, by decide +kernel⟩
abbrev s_component_of : Stmt := topS 58
theorem sc_component_of : FnScope ["_law_plain"] ["_law_plain"] (defScope s_component_of) := ⟨rfl, rfl, rfl, by decide +kernel, rfl, by decide +kernel, by decide +kernel⟩
abbrev s_blank : Stmt := topS 59
theorem sc_blank : FnScope ["_law_called"] ["_law_called"] (defScope s_blank) := ⟨rfl, rfl, rfl, by decide +kernel, rfl, by decide +kernel, by decide +kernel⟩
abbrev s_full_looks : Stmt := topS 60
theorem sc_full_looks : FnScope ["_law_told", "_law_row_here"] ["_law_told"] (defScope s_full_looks) := ⟨rfl, rfl, rfl, by decide +kernel, rfl, by decide +kernel, by decide +kernel⟩
abbrev s_some : Stmt := topS 61
theorem sc_some : FnScope ["_law_bag_here", "_law_things", "_law_thing"] ["_law_bag_here", "_law_things"] (defScope s_some) := ⟨rfl, rfl, rfl, by decide +kernel, rfl, by decide +kernel, by decide +kernel⟩
abbrev s_row : Stmt := topS 62
theorem sc_row : FnScope ["_law_bag_here", "_law_most", "_law_items"] ["_law_bag_here", "_law_most"] (defScope s_row) := ⟨rfl, rfl, rfl, by decide +kernel, rfl, by decide +kernel, by decide +kernel⟩
abbrev s_menu : Stmt := topS 63
theorem sc_menu : FnScope ["_law_bag_here", "_law_most", "_law_rows", "_law_step", "_law_old", "_law_grown", "_law_ways", "_law_item"] ["_law_bag_here", "_law_most"] (defScope s_menu) := ⟨rfl, rfl, rfl, by decide +kernel, rfl, by decide +kernel, by decide +kernel⟩
abbrev s_key : Stmt := topS 64
theorem sc_key : FnScope ["_law_bag_here", "_law_weak"] ["_law_bag_here", "_law_weak"] (defScope s_key) := ⟨rfl, rfl, rfl, by decide +kernel, rfl, by decide +kernel, by decide +kernel⟩
abbrev s_spares : Stmt := topS 65
theorem sc_spares : FnScope ["_law_barred", "_law_letters", "_law_one", "_law_told"] ["_law_barred"] (defScope s_spares) := ⟨rfl, rfl, rfl, by decide +kernel, rfl, by decide +kernel, by decide +kernel⟩
abbrev s_near : Stmt := topS 66
theorem sc_near : FnScope ["_law_bag_here", "_law_used", "_law_way", "_law_told"] ["_law_bag_here", "_law_used"] (defScope s_near) := ⟨rfl, rfl, rfl, by decide +kernel, rfl, by decide +kernel, by decide +kernel⟩
abbrev s_told_rows : Stmt := topS 67
theorem sc_told_rows : FnScope ["_law_bag_here", "_law_used", "_law_many", "_law_triple", "_law_out", "_law_step", "_law_size", "_law_told"] ["_law_bag_here", "_law_used", "_law_many", "_law_triple"] (defScope s_told_rows) := ⟨rfl, rfl, rfl, by decide +kernel, rfl, by decide +kernel, by decide +kernel⟩
abbrev s_words : Stmt := topS 68
theorem sc_words : FnScope ["_law_told", "_law_pressed", "_law_shape", "_law_deed"] ["_law_told"] (defScope s_words) := ⟨rfl, rfl, rfl, by decide +kernel, rfl, by decide +kernel, by decide +kernel⟩
abbrev s_law_stub : Stmt := topS 69
theorem sc_law_stub : FnScope ["_law_told", "_law_child_here", "_law_out", "_law_spare", "_law_taken", "_law_heard", "_law_cell", "_law_own", "_law_parts_here", "_law_at", "_law_row_here", "_law_deed"] ["_law_told", "_law_child_here"] (defScope s_law_stub) := ⟨rfl, rfl, rfl, by decide +kernel, rfl, by decide +kernel, by decide +kernel⟩
abbrev s_same : Stmt := topS 70
theorem sc_same : FnScope ["_law_first", "_law_second", "_law_at", "_law_part"] ["_law_first", "_law_second"] (defScope s_same) := ⟨rfl, rfl, rfl, by decide +kernel, rfl, by decide +kernel, by decide +kernel⟩
abbrev s_is : Stmt := topS 71
theorem sc_is : FnScope ["_law_got_here", "_law_told", "_law_parts_here", "_law_one", "_law_two"] ["_law_got_here", "_law_told"] (defScope s_is) := ⟨rfl, rfl, rfl, by decide +kernel, rfl, by decide +kernel, by decide +kernel⟩
abbrev s_turned : Stmt := topS 72
theorem sc_turned : FnScope ["_law_bag_here", "_law_words_here", "_law_cell", "_law_readable", "_law_form_here"] ["_law_bag_here", "_law_words_here", "_law_cell", "_law_readable"] (defScope s_turned) := ⟨rfl, rfl, rfl, by decide +kernel, rfl, by decide +kernel, by decide +kernel⟩
abbrev s_child : Stmt := topS 73
theorem sc_child : FnScope ["_law_bag_here", "_law_used", "_law_told", "_law_own", "_law_row_here"] ["_law_bag_here", "_law_used"] (defScope s_child) := ⟨rfl, rfl, rfl, by decide +kernel, rfl, by decide +kernel, by decide +kernel⟩
abbrev s_parent : Stmt := topS 74
theorem sc_parent : FnScope ["_law_bag_here", "_law_used", "_law_children", "_law_told", "_law_own", "_law_given", "_law_words_here", "_law_many", "_law_parts_here", "_law_child_here", "_law_forms", "_law_row_here", "_law_step"] ["_law_bag_here", "_law_used", "_law_children"] (defScope s_parent) := ⟨rfl, rfl, rfl, by decide +kernel, rfl, by decide +kernel, by decide +kernel⟩
abbrev s_got : Stmt := topS 75
theorem sc_got : FnScope ["_law_parent_here", "_law_child_here", "error"] ["_law_parent_here", "_law_child_here"] (defScope s_got) := ⟨rfl, rfl, rfl, by decide +kernel, rfl, by decide +kernel, by decide +kernel⟩
abbrev s_law : Stmt := topS 76
theorem sc_law : FnScope ["_law_script", "_law_bag_here", "_law_used", "_law_first", "_law_second", "_law_told", "_law_parent_here", "_law_one", "_law_two", "_law_good", "_law_child_here", "_law_plain", "_law_due", "_law_got_here"] ["_law_script"] (defScope s_law) := ⟨rfl, rfl, rfl, by decide +kernel, rfl, by decide +kernel, by decide +kernel⟩
abbrev s_BadForm_init : Stmt := inClass (topS 3) 0
abbrev s_BadRow_init : Stmt := inClass (topS 4) 0
abbrev s_BadComponent_init : Stmt := inClass (topS 5) 0
/-- what the top leaves -/
structure Top (K : PySem.W.Frag) (mg : Str → Option Value) (W : World) where
  m_abs : mg "abs" = none
  m_all : mg "all" = none
  m_bool : mg "bool" = none
  m_enumerate : mg "enumerate" = none
  m_int : mg "int" = none
  m_isinstance : mg "isinstance" = none
  m_len : mg "len" = none
  m_list : mg "list" = none
  m_range : mg "range" = none
  m_str : mg "str" = none
  m_tuple : mg "tuple" = none
  v_LETTERS_orders : ∃ t, mg "LETTERS_orders" = some (.str "abcdefghijklmnopqrstuvwxyz" t)
  v_MOST_LEVELS_forms : ∃ t, mg "MOST_LEVELS_forms" = some (.int 5 t)
  v_MOST_ITEMS : ∃ t, mg "MOST_ITEMS" = some (.int 5 t)
  v_MOST_SHAPES : ∃ t, mg "MOST_SHAPES" = some (.int 16 t)
  v_MOST_LEVELS_components : ∃ t, mg "MOST_LEVELS_components" = some (.int 5 t)
  v_LETTERS_surroundings : ∃ t, mg "LETTERS_surroundings" = some (.str "abcdefghijklmnopqrstuvwxyz" t)
  a_is_name : Addr
  d_is_name : FuncData
  F_is_name : Fun K "is_name" "is_name" s_is_name a_is_name d_is_name
  b_is_name : Binds K d_is_name ["thing"] []
  g_is_name : mg "is_name" = some (.ref a_is_name)
  a_is_number : Addr
  d_is_number : FuncData
  F_is_number : Fun K "is_number" "is_number" s_is_number a_is_number d_is_number
  b_is_number : Binds K d_is_number ["thing", "low", "high"] []
  g_is_number : mg "is_number" = some (.ref a_is_number)
  a_is_part : Addr
  d_is_part : FuncData
  F_is_part : Fun K "is_part" "is_part" s_is_part a_is_part d_is_part
  b_is_part : Binds K d_is_part ["part"] []
  g_is_part : mg "is_part" = some (.ref a_is_part)
  a_check_form : Addr
  d_check_form : FuncData
  F_check_form : Fun K "check_form" "check_form" s_check_form a_check_form d_check_form
  b_check_form : Binds K d_check_form ["parts"] []
  g_check_form : mg "check_form" = some (.ref a_check_form)
  a_names_of : Addr
  d_names_of : FuncData
  F_names_of : Fun K "names_of" "names_of" s_names_of a_names_of d_names_of
  b_names_of : Binds K d_names_of ["parts"] []
  g_names_of : mg "names_of" = some (.ref a_names_of)
  a_check_row : Addr
  d_check_row : FuncData
  F_check_row : Fun K "check_row" "check_row" s_check_row a_check_row d_check_row
  b_check_row : Binds K d_check_row ["row"] []
  g_check_row : mg "check_row" = some (.ref a_check_row)
  a_text_shape : Addr
  d_text_shape : FuncData
  F_text_shape : Fun K "text_shape" "text_shape" s_text_shape a_text_shape d_text_shape
  b_text_shape : Binds K d_text_shape ["form"] []
  g_text_shape : mg "text_shape" = some (.ref a_text_shape)
  a_button_shape : Addr
  d_button_shape : FuncData
  F_button_shape : Fun K "button_shape" "button_shape" s_button_shape a_button_shape d_button_shape
  b_button_shape : Binds K d_button_shape ["word"] []
  g_button_shape : mg "button_shape" = some (.ref a_button_shape)
  a_col_shape : Addr
  d_col_shape : FuncData
  F_col_shape : Fun K "col_shape" "col_shape" s_col_shape a_col_shape d_col_shape
  b_col_shape : BindsS d_col_shape [] "parts"
  g_col_shape : mg "col_shape" = some (.ref a_col_shape)
  a_part_shapes : Addr
  d_part_shapes : FuncData
  F_part_shapes : Fun K "part_shapes" "part_shapes" s_part_shapes a_part_shapes d_part_shapes
  b_part_shapes : Binds K d_part_shapes ["shape"] []
  g_part_shapes : mg "part_shapes" = some (.ref a_part_shapes)
  a_numbered : Addr
  d_numbered : FuncData
  F_numbered : Fun K "numbered" "numbered" s_numbered a_numbered d_numbered
  b_numbered : Binds K d_numbered ["shape"] []
  g_numbered : mg "numbered" = some (.ref a_numbered)
  a_good_form : Addr
  d_good_form : FuncData
  F_good_form : Fun K "good_form" "good_form" s_good_form a_good_form d_good_form
  b_good_form : Binds K d_good_form ["parts", "names"] []
  g_good_form : mg "good_form" = some (.ref a_good_form)
  a_good_rows : Addr
  d_good_rows : FuncData
  F_good_rows : Fun K "good_rows" "good_rows" s_good_rows a_good_rows d_good_rows
  b_good_rows : Binds K d_good_rows ["rows", "most", "size"] []
  g_good_rows : mg "good_rows" = some (.ref a_good_rows)
  a_fresh : Addr
  d_fresh : FuncData
  F_fresh : Fun K "fresh" "fresh" s_fresh a_fresh d_fresh
  b_fresh : Binds K d_fresh ["names", "earlier"] []
  g_fresh : mg "fresh" = some (.ref a_fresh)
  a_different : Addr
  d_different : FuncData
  F_different : Fun K "different" "different" s_different a_different d_different
  b_different : Binds K d_different ["words"] []
  g_different : mg "different" = some (.ref a_different)
  a_good_told : Addr
  d_good_told : FuncData
  F_good_told : Fun K "good_told" "good_told" s_good_told a_good_told d_good_told
  b_good_told : Binds K d_good_told ["rows", "most", "earlier"] []
  g_good_told : mg "good_told" = some (.ref a_good_told)
  a_good_menu : Addr
  d_good_menu : FuncData
  F_good_menu : Fun K "good_menu" "good_menu" s_good_menu a_good_menu d_good_menu
  b_good_menu : Binds K d_good_menu ["menu"] []
  g_good_menu : mg "good_menu" = some (.ref a_good_menu)
  a_good_shape : Addr
  d_good_shape : FuncData
  F_good_shape : Fun K "good_shape" "good_shape" s_good_shape a_good_shape d_good_shape
  b_good_shape : Binds K d_good_shape ["shape", "level", "names"] []
  g_good_shape : mg "good_shape" = some (.ref a_good_shape)
  a_good_children : Addr
  d_good_children : FuncData
  F_good_children : Fun K "good_children" "good_children" s_good_children a_good_children d_good_children
  b_good_children : Binds K d_good_children ["shape", "names"] []
  g_good_children : mg "good_children" = some (.ref a_good_children)
  a_part_numbers : Addr
  d_part_numbers : FuncData
  F_part_numbers : Fun K "part_numbers" "part_numbers" s_part_numbers a_part_numbers d_part_numbers
  b_part_numbers : Binds K d_part_numbers ["shape", "number"] []
  g_part_numbers : mg "part_numbers" = some (.ref a_part_numbers)
  a_Component_init : Addr
  d_Component_init : FuncData
  ke_Component_init_takes : Addr
  kq_Component_init_takes : ∀ H, SqT K H ke_Component_init_takes []
  ke_Component_init_hears : Addr
  kq_Component_init_hears : ∀ H, SqT K H ke_Component_init_hears []
  ke_Component_init_cells : Addr
  kq_Component_init_cells : ∀ H, SqT K H ke_Component_init_cells []
  ke_Component_init_asks : Addr
  kq_Component_init_asks : ∀ H, SqT K H ke_Component_init_asks []
  ke_Component_init_gives : Addr
  kq_Component_init_gives : ∀ H, SqT K H ke_Component_init_gives []
  ke_Component_init_effects : Addr
  kq_Component_init_effects : ∀ H, SqT K H ke_Component_init_effects []
  ke_Component_init_deeds : Addr
  kq_Component_init_deeds : ∀ H, SqT K H ke_Component_init_deeds []
  F_Component_init : FunD K "__init__" "Component.__init__" (defArgs s_Component_init) (defBody s_Component_init) (defScope s_Component_init) [] [("takes", .ref ke_Component_init_takes), ("hears", .ref ke_Component_init_hears), ("cells", .ref ke_Component_init_cells), ("asks", .ref ke_Component_init_asks), ("gives", .ref ke_Component_init_gives), ("effects", .ref ke_Component_init_effects), ("deeds", .ref ke_Component_init_deeds), ("looks", .non), ("island", .non)] a_Component_init d_Component_init
  kb0_Component_init : ∃ mv : List Value, KBn K d_Component_init ["self", "name", "shape", "takes", "hears", "cells", "asks", "gives", "effects", "deeds", "looks", "island"] 3 ["takes", "hears", "cells", "asks", "gives", "effects", "deeds", "looks", "island"] (fun us ws => us ++ ((((ws).drop 0).take 9))) (fun vs zs => vs ++ ((((zs).drop 0).take 9)))
  kb1_Component_init : ∃ mv : List Value, KBn K d_Component_init ["self", "name", "shape", "takes", "hears", "cells", "asks", "gives", "effects", "deeds", "looks", "island"] 3 ["takes", "hears", "cells", "deeds"] (fun us ws => us ++ ((((ws).drop 0).take 3) ++ ((((mv).drop 0).take 3) ++ ((((ws).drop 3).take 1) ++ ((((mv).drop 3).take 2)))))) (fun vs zs => vs ++ ((((zs).drop 0).take 3) ++ ((((([V.ref ke_Component_init_asks, V.ref ke_Component_init_gives, V.ref ke_Component_init_effects, V.non, V.non] : List V)).drop 0).take 3) ++ ((((zs).drop 3).take 1) ++ ((((([V.ref ke_Component_init_asks, V.ref ke_Component_init_gives, V.ref ke_Component_init_effects, V.non, V.non] : List V)).drop 3).take 2))))))
  a_Component_check_told : Addr
  d_Component_check_told : FuncData
  F_Component_check_told : Fun K "check_told" "Component.check_told" s_Component_check_told a_Component_check_told d_Component_check_told
  b_Component_check_told : Binds K d_Component_check_told ["self"] []
  a_Component_check_works : Addr
  d_Component_check_works : FuncData
  F_Component_check_works : Fun K "check_works" "Component.check_works" s_Component_check_works a_Component_check_works d_Component_check_works
  b_Component_check_works : Binds K d_Component_check_works ["self"] []
  a_Component_within : Addr
  d_Component_within : FuncData
  F_Component_within : Fun K "within" "Component.within" s_Component_within a_Component_within d_Component_within
  b_Component_within : Binds K d_Component_within ["told", "names"] []
  a_Component_good_island : Addr
  d_Component_good_island : FuncData
  F_Component_good_island : Fun K "good_island" "Component.good_island" s_Component_good_island a_Component_good_island d_Component_good_island
  b_Component_good_island : Binds K d_Component_good_island ["island"] []
  a_Component_good_deed : Addr
  d_Component_good_deed : FuncData
  F_Component_good_deed : Fun K "good_deed" "Component.good_deed" s_Component_good_deed a_Component_good_deed d_Component_good_deed
  b_Component_good_deed : Binds K d_Component_good_deed ["self", "sets", "goes"] []
  a_spare_names : Addr
  d_spare_names : FuncData
  F_spare_names : Fun K "spare_names" "spare_names" s_spare_names a_spare_names d_spare_names
  b_spare_names : Binds K d_spare_names ["barred", "count"] []
  g_spare_names : mg "spare_names" = some (.ref a_spare_names)
  a_words_of : Addr
  d_words_of : FuncData
  F_words_of : Fun K "words_of" "words_of" s_words_of a_words_of d_words_of
  b_words_of : Binds K d_words_of ["component"] []
  g_words_of : mg "words_of" = some (.ref a_words_of)
  a_one_more : Addr
  d_one_more : FuncData
  F_one_more : Fun K "one_more" "one_more" s_one_more a_one_more d_one_more
  b_one_more : Binds K d_one_more ["cell"] []
  g_one_more : mg "one_more" = some (.ref a_one_more)
  a_stub : Addr
  d_stub : FuncData
  F_stub : Fun K "stub" "stub" s_stub a_stub d_stub
  b_stub : Binds K d_stub ["component", "child"] []
  g_stub : mg "stub" = some (.ref a_stub)
  a_mixed : Addr
  d_mixed : FuncData
  F_mixed : Fun K "_law_mixed" "_law_mixed" s_mixed a_mixed d_mixed
  b_mixed : Binds K d_mixed ["_law_number_here", "_law_turn"] []
  g_mixed : mg "_law_mixed" = some (.ref a_mixed)
  a_bag : Addr
  d_bag : FuncData
  F_bag : Fun K "_law_bag" "_law_bag" s_bag a_bag d_bag
  b_bag : Binds K d_bag ["_law_script"] []
  g_bag : mg "_law_bag" = some (.ref a_bag)
  a_pick : Addr
  d_pick : FuncData
  F_pick : Fun K "_law_pick" "_law_pick" s_pick a_pick d_pick
  b_pick : Binds K d_pick ["_law_bag_here", "_law_many"] []
  g_pick : mg "_law_pick" = some (.ref a_pick)
  a_choice : Addr
  d_choice : FuncData
  F_choice : Fun K "_law_choice" "_law_choice" s_choice a_choice d_choice
  b_choice : Binds K d_choice ["_law_bag_here", "_law_things"] []
  g_choice : mg "_law_choice" = some (.ref a_choice)
  a_mingled : Addr
  d_mingled : FuncData
  F_mingled : Fun K "_law_mingled" "_law_mingled" s_mingled a_mingled d_mingled
  b_mingled : Binds K d_mingled ["_law_bag_here", "_law_things"] []
  g_mingled : mg "_law_mingled" = some (.ref a_mingled)
  a_sorted : Addr
  d_sorted : FuncData
  F_sorted : Fun K "_law_sorted" "_law_sorted" s_sorted a_sorted d_sorted
  b_sorted : Binds K d_sorted ["_law_things"] []
  g_sorted : mg "_law_sorted" = some (.ref a_sorted)
  a_number : Addr
  d_number : FuncData
  F_number : Fun K "_law_number" "_law_number" s_number a_number d_number
  b_number : Binds K d_number ["_law_thing"] []
  g_number : mg "_law_number" = some (.ref a_number)
  a_new_name : Addr
  d_new_name : FuncData
  F_new_name : Fun K "_law_new_name" "_law_new_name" s_new_name a_new_name d_new_name
  b_new_name : Binds K d_new_name ["_law_bag_here", "_law_used"] []
  g_new_name : mg "_law_new_name" = some (.ref a_new_name)
  a_form : Addr
  d_form : FuncData
  F_form : Fun K "_law_form" "_law_form" s_form a_form d_form
  b_form : Binds K d_form ["_law_bag_here", "_law_readable", "_law_levels"] []
  g_form : mg "_law_form" = some (.ref a_form)
  a_parts : Addr
  d_parts : FuncData
  F_parts : Fun K "_law_parts" "_law_parts" s_parts a_parts d_parts
  b_parts : Binds K d_parts ["_law_shape"] []
  g_parts : mg "_law_parts" = some (.ref a_parts)
  a_law_numbered : Addr
  d_law_numbered : FuncData
  F_law_numbered : Fun K "_law_numbered" "_law_numbered" s_law_numbered a_law_numbered d_law_numbered
  b_law_numbered : Binds K d_law_numbered ["_law_shape"] []
  g_law_numbered : mg "_law_numbered" = some (.ref a_law_numbered)
  a_component_of : Addr
  d_component_of : FuncData
  F_component_of : Fun K "_law_component_of" "_law_component_of" s_component_of a_component_of d_component_of
  b_component_of : Binds K d_component_of ["_law_plain"] []
  g_component_of : mg "_law_component_of" = some (.ref a_component_of)
  a_blank : Addr
  d_blank : FuncData
  F_blank : Fun K "_law_blank" "_law_blank" s_blank a_blank d_blank
  b_blank : Binds K d_blank ["_law_called"] []
  g_blank : mg "_law_blank" = some (.ref a_blank)
  a_full_looks : Addr
  d_full_looks : FuncData
  F_full_looks : Fun K "_law_full_looks" "_law_full_looks" s_full_looks a_full_looks d_full_looks
  b_full_looks : Binds K d_full_looks ["_law_told"] []
  g_full_looks : mg "_law_full_looks" = some (.ref a_full_looks)
  a_some : Addr
  d_some : FuncData
  F_some : Fun K "_law_some" "_law_some" s_some a_some d_some
  b_some : Binds K d_some ["_law_bag_here", "_law_things"] []
  g_some : mg "_law_some" = some (.ref a_some)
  a_row : Addr
  d_row : FuncData
  F_row : Fun K "_law_row" "_law_row" s_row a_row d_row
  b_row : Binds K d_row ["_law_bag_here", "_law_most"] []
  g_row : mg "_law_row" = some (.ref a_row)
  a_menu : Addr
  d_menu : FuncData
  F_menu : Fun K "_law_menu" "_law_menu" s_menu a_menu d_menu
  b_menu : Binds K d_menu ["_law_bag_here", "_law_most"] []
  g_menu : mg "_law_menu" = some (.ref a_menu)
  a_key : Addr
  d_key : FuncData
  F_key : Fun K "_law_key" "_law_key" s_key a_key d_key
  b_key : Binds K d_key ["_law_bag_here", "_law_weak"] []
  g_key : mg "_law_key" = some (.ref a_key)
  a_spares : Addr
  d_spares : FuncData
  F_spares : Fun K "_law_spares" "_law_spares" s_spares a_spares d_spares
  b_spares : Binds K d_spares ["_law_barred"] []
  g_spares : mg "_law_spares" = some (.ref a_spares)
  a_near : Addr
  d_near : FuncData
  F_near : Fun K "_law_near" "_law_near" s_near a_near d_near
  b_near : Binds K d_near ["_law_bag_here", "_law_used"] []
  g_near : mg "_law_near" = some (.ref a_near)
  a_told_rows : Addr
  d_told_rows : FuncData
  F_told_rows : Fun K "_law_told_rows" "_law_told_rows" s_told_rows a_told_rows d_told_rows
  b_told_rows : Binds K d_told_rows ["_law_bag_here", "_law_used", "_law_many", "_law_triple"] []
  g_told_rows : mg "_law_told_rows" = some (.ref a_told_rows)
  a_words : Addr
  d_words : FuncData
  F_words : Fun K "_law_words" "_law_words" s_words a_words d_words
  b_words : Binds K d_words ["_law_told"] []
  g_words : mg "_law_words" = some (.ref a_words)
  a_law_stub : Addr
  d_law_stub : FuncData
  F_law_stub : Fun K "_law_stub" "_law_stub" s_law_stub a_law_stub d_law_stub
  b_law_stub : Binds K d_law_stub ["_law_told", "_law_child_here"] []
  g_law_stub : mg "_law_stub" = some (.ref a_law_stub)
  a_same : Addr
  d_same : FuncData
  F_same : Fun K "_law_same" "_law_same" s_same a_same d_same
  b_same : Binds K d_same ["_law_first", "_law_second"] []
  g_same : mg "_law_same" = some (.ref a_same)
  a_is : Addr
  d_is : FuncData
  F_is : Fun K "_law_is" "_law_is" s_is a_is d_is
  b_is : Binds K d_is ["_law_got_here", "_law_told"] []
  g_is : mg "_law_is" = some (.ref a_is)
  a_turned : Addr
  d_turned : FuncData
  F_turned : Fun K "_law_turned" "_law_turned" s_turned a_turned d_turned
  b_turned : Binds K d_turned ["_law_bag_here", "_law_words_here", "_law_cell", "_law_readable"] []
  g_turned : mg "_law_turned" = some (.ref a_turned)
  a_child : Addr
  d_child : FuncData
  F_child : Fun K "_law_child" "_law_child" s_child a_child d_child
  b_child : Binds K d_child ["_law_bag_here", "_law_used"] []
  g_child : mg "_law_child" = some (.ref a_child)
  a_parent : Addr
  d_parent : FuncData
  F_parent : Fun K "_law_parent" "_law_parent" s_parent a_parent d_parent
  b_parent : Binds K d_parent ["_law_bag_here", "_law_used", "_law_children"] []
  g_parent : mg "_law_parent" = some (.ref a_parent)
  a_got : Addr
  d_got : FuncData
  F_got : Fun K "_law_got" "_law_got" s_got a_got d_got
  b_got : Binds K d_got ["_law_parent_here", "_law_child_here"] []
  g_got : mg "_law_got" = some (.ref a_got)
  a_law : Addr
  d_law : FuncData
  F_law : Fun K "law" "law" s_law a_law d_law
  b_law : Binds K d_law ["_law_script"] []
  g_law : mg "law" = some (.ref a_law)
  D_COUNTS : Addr
  e_COUNTS : Array DictEntry
  n_COUNTS : Nat
  g_COUNTS : mg "COUNTS" = some (.ref D_COUNTS)
  l_COUNTS : K.lookup D_COUNTS = some ⟨.type "dict", none, .dict e_COUNTS n_COUNTS, #[]⟩
  q_COUNTS : PySem.W.KeysLit W.params e_COUNTS.toList
  w_COUNTS : (D_COUNTS == sysModules) = false
  k_COUNTS_0 : ∃ t, PySem.W.nsIn K D_COUNTS "is" = some (some (.int 2 t))
  k_COUNTS_1 : ∃ t, PySem.W.nsIn K D_COUNTS "get" = some (some (.int 2 t))
  k_COUNTS_2 : ∃ t, PySem.W.nsIn K D_COUNTS "sum" = some (some (.int 3 t))
  k_COUNTS_3 : ∃ t, PySem.W.nsIn K D_COUNTS "same" = some (some (.int 3 t))
  k_COUNTS_4 : ∃ t, PySem.W.nsIn K D_COUNTS "pick" = some (some (.int 4 t))
  U_FENCES : Addr
  g_FENCES : mg "FENCES" = some (.ref U_FENCES)
  sq_FENCES : ∀ H, SqT K H U_FENCES [V.str "any", V.str "own", V.str "same", V.str "both", V.str "last"]
  wt_FENCES : ∃ o, K.lookup U_FENCES = some o ∧ o.cls = .type "tuple" ∧ o.dict = none
  U_PRESSES : Addr
  g_PRESSES : mg "PRESSES" = some (.ref U_PRESSES)
  sq_PRESSES : ∀ H, SqT K H U_PRESSES [V.str "lost", V.str "kept", V.str "takes"]
  wt_PRESSES : ∃ o, K.lookup U_PRESSES = some o ∧ o.cls = .type "tuple" ∧ o.dict = none
  C_Component : Addr
  g_Component : mg "Component" = some (.ref C_Component)
  cl_Component : Cls K C_Component
  na_Component_name : NoAttr K C_Component "name"
  na_Component_shape : NoAttr K C_Component "shape"
  na_Component_takes : NoAttr K C_Component "takes"
  na_Component_hears : NoAttr K C_Component "hears"
  na_Component_cells : NoAttr K C_Component "cells"
  na_Component_asks : NoAttr K C_Component "asks"
  na_Component_gives : NoAttr K C_Component "gives"
  na_Component_effects : NoAttr K C_Component "effects"
  na_Component_deeds : NoAttr K C_Component "deeds"
  na_Component_looks : NoAttr K C_Component "looks"
  na_Component_island : NoAttr K C_Component "island"
  na_Component_all_names : NoAttr K C_Component "all_names"
  na_Component_shapes : NoAttr K C_Component "shapes"
  na_Component_inner : NoAttr K C_Component "inner"
  na_Component_deeds_by : NoAttr K C_Component "deeds_by"
  mk_Component : Mk K C_Component a_Component_init
  me_Component_check_told : Meth K C_Component "check_told" a_Component_check_told
  me_Component_check_works : Meth K C_Component "check_works" a_Component_check_works
  me_Component_good_deed : Meth K C_Component "good_deed" a_Component_good_deed
  si_Component_within : SMetI K C_Component "within" a_Component_within
  si_Component_good_island : SMetI K C_Component "good_island" a_Component_good_island
  ty_Component : PySem.W.findIn K (.ref C_Component) "__class__" = some (some (.builtin "object.__class__")) ∧ PySem.W.specialIn K (.builtin "object.__class__") "__get__" = some (some (.builtin "getset_descriptor.__get__")) ∧ PySem.W.takesIn K (.builtin "object.__class__") = some true ∧ PySem.W.mroIn K C_Component (.type "object") = some true ∧ PySem.W.kitOne K (.ref C_Component) (.ref C_Component) = some true
  x_file : Str
  C_ScreenError : Addr
  g_ScreenError : mg "ScreenError" = some (.ref C_ScreenError)
  C_BadForm : Addr
  i_BadForm : Addr
  g_BadForm : mg "BadForm" = some (.ref C_BadForm)
  x_BadForm : ∀ P : Program, PySem.XExc.PF P x_file → PySem.XExc.ExTxt P K mg "BadForm" "part" "not a form: " C_BadForm i_BadForm
  xc_BadForm : ExcC K C_BadForm
  xf_BadForm : XfC K C_BadForm
  em_BadForm_BadForm : PySem.W.exmOne K (.ref C_BadForm) (.ref C_BadForm) = some true
  C_BadRow : Addr
  i_BadRow : Addr
  g_BadRow : mg "BadRow" = some (.ref C_BadRow)
  x_BadRow : ∀ P : Program, PySem.XExc.PF P x_file → PySem.XExc.ExTxt P K mg "BadRow" "row" "not a row: " C_BadRow i_BadRow
  xc_BadRow : ExcC K C_BadRow
  xf_BadRow : XfC K C_BadRow
  em_BadRow_BadRow : PySem.W.exmOne K (.ref C_BadRow) (.ref C_BadRow) = some true
  C_BadComponent : Addr
  i_BadComponent : Addr
  g_BadComponent : mg "BadComponent" = some (.ref C_BadComponent)
  x_BadComponent : ∀ P : Program, PySem.XExc.PF P x_file → PySem.XExc.ExTxt P K mg "BadComponent" "part" "bad part of a component: " C_BadComponent i_BadComponent
  xc_BadComponent : ExcC K C_BadComponent
  xf_BadComponent : XfC K C_BadComponent
  em_BadComponent_BadComponent : PySem.W.exmOne K (.ref C_BadComponent) (.ref C_BadComponent) = some true
/-! ### the bag -/
structure Bag (G : Hp) (o : HO) : Prop where
  ex : ∃ (n : Addr) (ns : List Int) (i g t s : Int), o = .lst [.ref n, .int i, .int g, .int t, .int s] ∧ G n = some (.lst (ns.map V.int)) ∧ 0 ≤ i ∧ 0 ≤ g
theorem Bag.same {G G' : Hp} {o : HO} (e : Same G G') (b : Bag G o) : Bag G' o := by
  obtain ⟨n, ns, i, g, t, s, h1, h2, h3⟩ := b.ex
  exact ⟨n, ns, i, g, t, s, h1, e _ _ h2, h3⟩

section
variable {P : Program} {w : World} {K : PySem.W.Frag} {mg : Str → Option Value} {base : Heap}
def spMixed : Sp := fun vs H Q _ => ∃ n t : Int, vs = [.int n, .int t] ∧ ∀ r : Int, 0 ≤ r → r < 2147483587 → Q (.int r) H
theorem ok_mixed (T : Top K mg w) {k : Nat} : FnOk P w K mg base CX0 (k + 1) T.a_mixed T.d_mixed ["_law_number_here", "_law_turn"] spMixed := by
  refine T.F_mixed.ok sc_mixed (fun vs H Q E h => ?_) (fun cdv A outer s H vs Q E hr h => ?_)
  · obtain ⟨n, t, rfl, _⟩ := h
    rfl
  · obtain ⟨n, t, rfl, q⟩ := h
    refine ⟨_, (pss_cons (ps_set (i := 2) sc_mixed.nd rfl (.inl rfl) (pe_op op_modY (pe_callTy cr_int (by rfl) T.m_int (by decide +kernel) (pa_cons (pe_op op_addY (pe_op op_mulY (pe_op op_addY (xv 0) pe_int) pe_int) (pe_op op_mulY (pe_op op_addY (xv 1) pe_int) pe_int)) pa_nil)) pe_int))
      (pss_cons (ps_set (i := 3) sc_mixed.nd rfl (.inl rfl) (pe_op op_modY (pe_callTy cr_int (by rfl) T.m_int (by decide +kernel) (pa_cons (pe_op op_addY (pe_op op_addY (pe_op op_mulY (xv 2) (xv 2)) (pe_op op_mulY (xv 2) pe_int)) (pe_op op_mulY (pe_op op_addY (xv 1) pe_int) pe_int)) pa_nil)) pe_int))
      (pss_one (ps_ret (pe_op op_modY (pe_callTy cr_int (by rfl) T.m_int (by decide +kernel) (pa_cons (pe_op op_addY (pe_op op_addY (pe_op op_divY (xv 3) pe_int) (pe_op op_mulY (xv 3) pe_int)) (xv 1)) pa_nil)) pe_int))))), ?_⟩
    refine ⟨.inr ⟨by decide, by decide⟩, .inr ⟨by decide, by decide⟩, by decide, fun f _ f0 f1 => ?_⟩
    refine ⟨.inl ⟨by omega, by omega⟩, .inr ⟨by decide, by decide⟩, .inr ⟨by decide, by decide⟩, by decide, fun g _ g0 g1 => ?_⟩
    refine ⟨⟨by decide, by decide⟩, fun d _ _ => ⟨.inr ⟨by decide, by decide⟩, by decide, fun r _ r0 r1 => ?_⟩⟩
    exact q r r0 r1

def spPick : Sp := fun vs H Q _ => ∃ (G : Hp) (M : List (Addr × HO)) (b : Addr) (o : HO) (n : Int), vs = [.ref b, .int n] ∧ Sep G ((b, o) :: M) H ∧ Bag G o ∧ 0 < n ∧ n < 1073741824 ∧
  ∀ (r : Int) (o' : HO) (H' : Hp), 0 ≤ r → r < n → Bag G o' → Sep G ((b, o') :: M) H' → Q (.int r) H'
theorem ok_pick (T : Top K mg w) {k : Nat} (G_mixed : FnOk P w K mg base CX0 (k + 1) T.a_mixed T.d_mixed ["_law_number_here", "_law_turn"] spMixed) :
    FnOk P w K mg base CX0 (k + 2) T.a_pick T.d_pick ["_law_bag_here", "_law_many"] spPick := by
  refine T.F_pick.ok sc_pick (fun vs H Q E h => ?_) (fun cdv A outer s H vs Q E hr h => ?_)
  · obtain ⟨G, M, b, o, n, rfl, _⟩ := h
    rfl
  · obtain ⟨G, M, b, o, n, rfl, S, B, n0, n1, q⟩ := h
    obtain ⟨N, ns, i, g, t, z, rfl, hN, i0, g0⟩ := B.ex
    refine ⟨_, (pss_cons (ps_set (i := 2) sc_pick.nd rfl (.inl rfl) (pe_ix (ix_k K) (xv 0) pe_int (fun _ _ => rfl)))
      (pss_cons (ps_asg (pe_op op_addY (xv 2) pe_int) (pg_sub (xv 0) pe_int set_list))
      (xss_cut (xs_if (PW.pt (xw_and (xt_cmp (op_eqLK K hr.u190) (pe_ix (ix_k K) (xv 0) pe_int (fun _ _ => rfl)) pe_int (nomark _)) (pw_and1 (xt_cmp op_ltY (pe_ix (ix_k K) (xv 0) pe_int (fun _ _ => rfl)) (pe_callB (cr_lenK K) (by rfl) T.m_len (by decide +kernel) (pa_cons (pe_ix (ix_k K) (xv 0) pe_int (fun _ _ => rfl)) pa_nil)) (nomark _)))))
      (pss_cons (ps_set (i := 3) sc_pick.nd rfl (.inl rfl) (pe_ix (ix_k K) (pe_ix (ix_k K) (xv 0) pe_int (fun _ _ => rfl)) (pe_ix (ix_k K) (xv 0) pe_int (fun _ _ => rfl)) (fun _ _ => rfl)))
      (pss_cons (ps_asg (pe_op op_addY (pe_ix (ix_k K) (xv 0) pe_int (fun _ _ => rfl)) pe_int) (pg_sub (xv 0) pe_int set_list))
      (pss_cons (xs_if (xt_cmp op_ltY (pe_callB cr_abs (by rfl) T.m_abs (by decide +kernel) (pa_cons (xv 3) pa_nil)) (pe_op op_powY pe_int pe_int) (nomark _))
      (pss_one (ps_ret (pe_op op_modY (pe_callTy cr_int (by rfl) T.m_int (by decide +kernel) (pa_cons (pe_call G_mixed (hr.mono (by omega)) (by rfl) T.g_mixed T.F_mixed.kp T.b_mixed .nil pass0 (pa_cons (pe_op op_addY (pe_op op_mulY pe_int (pe_callB cr_abs (by rfl) T.m_abs (by decide +kernel) (pa_cons (xv 3) pa_nil))) (pe_cmpR op_ltY (xv 3) pe_int (nomark _))) (pa_cons (xv 2) pa_nil))) pa_nil)) (xv 1))))
      pss_nil)
      (pss_one (ps_asg (pe_callB cr_abs (by rfl) T.m_abs (by decide +kernel) (pa_cons (xv 3) pa_nil)) (pg_sub (xv 0) pe_int set_list))))))
      pss_nil)
      (pss_cons (xs_if (xt_cmp (op_eqLK K hr.u190) (pe_ix (ix_k K) (xv 0) pe_int (fun _ _ => rfl)) pe_int (nomark _))
      (pss_one (ps_ret (pe_op op_modY (pe_callTy cr_int (by rfl) T.m_int (by decide +kernel) (pa_cons (pe_call G_mixed (hr.mono (by omega)) (by rfl) T.g_mixed T.F_mixed.kp T.b_mixed .nil pass0 (pa_cons (pe_ix (ix_k K) (xv 0) pe_int (fun _ _ => rfl)) (pa_cons (xv 2) pa_nil))) pa_nil)) (xv 1))))
      pss_nil)
      (pss_cons (ps_set (i := 4) sc_pick.nd rfl (.inl rfl) (pe_op op_modY (pe_callTy cr_int (by rfl) T.m_int (by decide +kernel) (pa_cons (pe_ix (ix_k K) (xv 0) pe_int (fun _ _ => rfl)) pa_nil)) (xv 1)))
      (pss_cons (ps_asg (pe_op op_divY (pe_ix (ix_k K) (xv 0) pe_int (fun _ _ => rfl)) (xv 1)) (pg_sub (xv 0) pe_int set_list))
      (pss_one (ps_ret (xv 4))))))))), ?_⟩
    -- the turn
    refine ⟨_, _, .inl (SqL.of S.hd), rfl, b, _, _, 3, rfl, rfl, S.hd, rfl, ?_⟩
    have S1 := S.set (o' := .lst [.ref N, .int i, .int g, .int (t + 1), .int z])
    have fin : ∀ (j : Int) (g' : Int) (H2 : Hp), 0 ≤ j → 0 ≤ g' → Sep G ((b, .lst [.ref N, .int j, .int g', .int (t + 1), .int z]) :: M) H2 → (g' = 0 → ∀ r : Int, 0 ≤ r → r < n → Q (.int r) H2) ∧
        (∀ (r d : Int), 0 ≤ r → r < n → 0 ≤ d → Q (.int r) (upd H2 b (.lst [.ref N, .int j, .int d, .int (t + 1), .int z]))) := fun j g' H2 j0 h0 S2 =>
      ⟨fun _ r r0 r1 => q r _ _ r0 r1 ⟨N, ns, j, g', t + 1, z, rfl, hN, j0, h0⟩ S2, fun r d r0 r1 d0 => q r _ _ r0 r1 ⟨N, ns, j, d, t + 1, z, rfl, hN, j0, d0⟩ S2.set⟩
    -- the rest, from a bag on
    refine ⟨fun σ H2 => ∃ (y3 y4 : Option V) (j g' : Int), σ = [some (.ref b), some (.int n), some (.int t), y3, y4] ∧ 0 ≤ j ∧ 0 ≤ g' ∧ Sep G ((b, .lst [.ref N, .int j, .int g', .int (t + 1), .int z]) :: M) H2, ?_, fun σ H2 h => ?_⟩
    · have go : ∃ (y3 y4 : Option V) (j g' : Int), ([some (.ref b), some (.int n), some (.int t), none, none] : List (Option V)) = [some (.ref b), some (.int n), some (.int t), y3, y4] ∧ 0 ≤ j ∧ 0 ≤ g' ∧ Sep G ((b, .lst [.ref N, .int j, .int g', .int (t + 1), .int z]) :: M) _ := ⟨_, _, i, g, rfl, i0, g0, S1⟩
      refine ⟨_, _, .inl (SqL.of S1.hd), rfl, fun e => ⟨_, _, .inl (SqL.of S1.hd), rfl, _, _, .inl (SqL.of S1.hd), rfl, _, .inl (SqL.of (S1.st hN)), fun e => ?_, fun e => go⟩, fun e => ⟨ff, fun _ => go⟩⟩
      have hi : i < (ns.map V.int).length := of_decide_eq_true e
      obtain ⟨v, hv, hm⟩ := atI_in i0 hi
      obtain ⟨c, _, rfl⟩ := List.mem_map.mp hm
      refine ⟨_, _, .inl (SqL.of S1.hd), rfl, _, _, .inl (SqL.of S1.hd), rfl, _, _, .inl (SqL.of (S1.st hN)), hv, ?_⟩
      refine ⟨_, _, .inl (SqL.of S1.hd), rfl, b, _, _, 1, rfl, rfl, S1.hd, rfl, ?_⟩
      have S2 := S1.set (o' := .lst [.ref N, .int (i + 1), .int g, .int (t + 1), .int z])
      refine ⟨⟨by decide, by decide, by decide⟩, fun p _ => ⟨fun e => ?_, fun e => ?_⟩⟩
      · refine ⟨.inl ⟨by decide, by decide⟩, _, _, rfl, fun m _ _ => ⟨n0, fun r _ r0 r1 => ?_⟩⟩
        exact q r _ _ r0 r1 ⟨N, ns, i + 1, g, t + 1, z, rfl, hN, by omega, g0⟩ S2
      · refine ⟨b, _, _, 2, rfl, rfl, S2.hd, rfl, ?_⟩
        exact ⟨_, _, i + 1, c.natAbs, rfl, by omega, by omega, S2.set⟩
    · obtain ⟨y3, y4, j, g', rfl, j0, h0, S2⟩ := h
      obtain ⟨f1, f2⟩ := fin j g' H2 j0 h0 S2
      refine ⟨_, _, .inl (SqL.of S2.hd), rfl, fun e => ?_, fun e => ?_⟩
      · refine ⟨_, _, .inl (SqL.of S2.hd), rfl, _, _, rfl, fun m _ _ => ⟨n0, fun r _ r0 r1 => ?_⟩⟩
        exact f1 (of_decide_eq_true e) r r0 r1
      · refine ⟨_, _, .inl (SqL.of S2.hd), rfl, n0, fun r _ r0 r1 => ?_⟩
        refine ⟨_, _, .inl (SqL.of S2.hd), rfl, ⟨n0, n1⟩, fun d _ d0 => ⟨b, _, _, 2, rfl, rfl, S2.hd, rfl, ?_⟩⟩
        exact f2 r d r0 r1 (d0 h0)

def spBag (K : PySem.W.Frag) : Sp := fun vs H Q _ => ∃ (G : Hp) (M : List (Addr × HO)) (a : Addr) (ns : List Int), vs = [.ref a] ∧ Sep G M H ∧ SqL K G a (ns.map V.int) ∧ ns.length ≤ 63 ∧
  ∀ (b : Addr) (o : HO) (G' H' : Hp), Same G G' → Bag G' o → Sep G' ((b, o) :: M) H' → Q (.ref b) H'
theorem ok_bag (T : Top K mg w) {k : Nat} : FnOk P w K mg base CX0 (k + 1) T.a_bag T.d_bag ["_law_script"] (spBag K) := by
  refine T.F_bag.ok sc_bag (fun vs H Q E h => ?_) (fun cdv A outer s H vs Q E hr h => ?_)
  · obtain ⟨G, M, a, ns, rfl, _⟩ := h
    rfl
  · obtain ⟨G, M, a, ns, rfl, S, hA, hl, q⟩ := h
    refine ⟨_, (pss_cons (ps_setLc (i := 2) (own := [("_law_cell", 1)]) (by rfl) sc_bag.nd rfl rfl (sw_true rfl rfl rfl (by decide +kernel)) (pi_listK K (xv 0)) (blkOk_by (N := ["_law_script", "_law_cell", "_law_numbers", "_law_seed", "_law_at"]) (sc := defScope s_bag) (by decide +kernel)) (fun _ _ _ _ _ => (pg_name (i := 1) sc_bag.nd rfl (.inl rfl))) (fun _ _ _ _ _ => pts_nil) (fun _ _ _ _ _ => (pe_callTy cr_int (by rfl) T.m_int (by decide +kernel) (pa_cons (xv 1) pa_nil))))
      (pss_cons (ps_set (i := 3) sc_bag.nd rfl (.inl rfl) (pe_callB (cr_lenK K) (by rfl) T.m_len (by decide +kernel) (pa_cons (xv 2) pa_nil)))
      (pss_cons (ps_for PassesOwn.never rfl (pi_enum (by rfl) T.m_enumerate (pa_cons (pe_slice (sl_listK K) (xv 2) po_none (po_some pe_int)) pa_nil)) (pg_tupK K 2 (pgs_cons (pg_name (i := 4) sc_bag.nd rfl (.inl rfl)) (pgs_cons (pg_name (i := 1) sc_bag.nd rfl (.inl rfl)) pgs_nil)))
      (pss_one (ps_set (i := 3) sc_bag.nd rfl (.inl rfl) (pe_op op_modY (pe_callTy cr_int (by rfl) T.m_int (by decide +kernel) (pa_cons (pe_op op_addY (pe_op op_addY (pe_op op_mulY (xv 3) pe_int) (pe_op op_modY (pe_callTy cr_int (by rfl) T.m_int (by decide +kernel) (pa_cons (pe_callB cr_abs (by rfl) T.m_abs (by decide +kernel) (pa_cons (xv 1) pa_nil)) pa_nil)) pe_int)) (pe_op op_mulY (pe_op op_addY (xv 4) pe_int) (pe_cmpR op_ltY (xv 1) pe_int (nomark _)))) pa_nil)) pe_int))))
      (pss_one (ps_ret (pe_lst (pa_cons (xv 2) (pa_cons pe_int (pa_cons pe_int (pa_cons pe_int (pa_cons (xv 3) pa_nil))))))))))), ?_⟩
    refine ⟨a, rfl, ⟨_, S.l hA⟩, fun L nL => lc_pre (xs := ns.map V.int) (fun pre H' => Sep G ((L, .lst pre) :: M) H') (S.new nL) (fun pre H' p => p.l hA) (fun _ => rfl) (fun pre x post H' e p => ?_) (fun H' S1 => ?_)⟩
    · obtain ⟨c, _, rfl⟩ := List.mem_map.mp (show x ∈ ns.map V.int by rw [e]; simp)
      have hz : pre.length ≤ 63 := by
        have z := congrArg List.length e
        rw [List.length_map, List.length_append] at z
        omega
      exact ⟨_, p.hd, smallL (by omega), p.set⟩
    · -- the seed
      have S2 := S1.frz
      have hN : upd G L (.lst (ns.map V.int)) L = some (.lst (ns.map V.int)) := upd_same
      refine ⟨_, .inl (SqL.of (S2.st hN)), ?_⟩
      refine ⟨63, rfl, L, _, rfl, SqL.of (S2.st hN), fun c nc => ?_⟩
      have S3 := S2.newG (o := .lst (cutV (ns.map V.int) none (some 63))) nc
      have s3 := S2.grow (o := .lst (cutV (ns.map V.int) none (some 63))) nc
      refine ⟨c, _, rfl, SqL.of (S3.st upd_same), for_enum (xs := cutV (ns.map V.int) none (some 63)) (fun pre σ H' => ∃ (y1 y4 : Option V) (z : Int) (G' : Hp), σ = [some (.ref a), y1, some (.ref L), some (.int z), y4] ∧
        Same (upd (upd G L (.lst (ns.map V.int))) c (.lst (cutV (ns.map V.int) none (some 63)))) G' ∧ Sep G' M H') ⟨_, _, _, _, rfl, Same.refl _, S3⟩ (fun pre σ H' h => ?_) (fun pre x post σ H' W e h nW => ?_) (fun σ H' h => ?_)⟩
      · obtain ⟨_, _, _, G', _, s4, S4⟩ := h
        exact SqL.of (S4.st (s4 _ _ upd_same))
      · obtain ⟨y1, y4, z, G', rfl, s4, S4⟩ := h
        have hx : x ∈ ns.map V.int := by
          have hm : x ∈ cutV (ns.map V.int) none (some 63) := by rw [e]; simp
          exact List.mem_of_mem_drop (List.mem_of_mem_take hm)
        obtain ⟨v, _, rfl⟩ := List.mem_map.mp hx
        have S5 := S4.newG (o := .tup [.int (pre.length : Nat), .int v]) nW
        refine ⟨.inr ⟨by decide, by decide⟩, by decide, fun r _ r0 r1 => ⟨by decide, fun u _ u0 u1 => ?_⟩⟩
        exact ⟨_, _, _, _, rfl, s4.trans (S4.grow nW), S5⟩
      · obtain ⟨y1, y4, z, G', rfl, s4, S4⟩ := h
        refine ⟨sz, fun b nb => ?_⟩
        exact q b _ G' _ ((S1.frzS).trans (s3.trans s4)) ⟨L, ns, 0, 0, 0, z, rfl, s4 _ _ (s3 _ _ hN), by decide, by decide⟩ (S4.new nb)

def spChoice (K : PySem.W.Frag) : Sp := fun vs H Q _ => ∃ (G : Hp) (M : List (Addr × HO)) (b : Addr) (o : HO) (l : Addr) (xs : List V), vs = [.ref b, .ref l] ∧ Sep G ((b, o) :: M) H ∧ Bag G o ∧ SqL K G l xs ∧ 0 < xs.length ∧ xs.length < 100000 ∧
  ∀ (v : V) (o' : HO) (H' : Hp), v ∈ xs → Bag G o' → Sep G ((b, o') :: M) H' → Q v H'
theorem ok_choice (T : Top K mg w) {k : Nat} (G_pick : FnOk P w K mg base CX0 k T.a_pick T.d_pick ["_law_bag_here", "_law_many"] spPick) : FnOk P w K mg base CX0 (k + 1) T.a_choice T.d_choice ["_law_bag_here", "_law_things"] (spChoice K) := by
  refine T.F_choice.ok sc_choice (fun vs H Q E h => ?_) (fun cdv A outer s H vs Q E hr h => ?_)
  · obtain ⟨G, M, b, o, l, xs, rfl, _⟩ := h
    rfl
  · obtain ⟨G, M, b, o, l, xs, rfl, S, B, hl, x0, x1, q⟩ := h
    refine ⟨_, (pss_one (ps_ret (pe_ix (ix_k K) (xv 1) (pe_call G_pick (hr.mono (by omega)) (by rfl) T.g_pick T.F_pick.kp T.b_pick .nil pass0 (pa_cons (xv 0) (pa_cons (pe_callB (cr_lenK K) (by rfl) T.m_len (by decide +kernel) (pa_cons (xv 1) pa_nil)) pa_nil))) (fun _ _ => rfl)))), ?_⟩
    refine ⟨_, .inl (S.l hl), G, M, b, o, _, rfl, S, B, by omega, by omega, fun r o' H' r0 r1 B' S' => ?_⟩
    obtain ⟨v, hv, hm⟩ := atI_in r0 r1
    exact ⟨_, v, .inl (S'.l hl), hv, q v o' H' hm B' S'⟩

def spMingled (K : PySem.W.Frag) : Sp := fun vs H Q _ => ∃ (G : Hp) (M : List (Addr × HO)) (b : Addr) (o : HO) (l : Addr) (xs : List V), vs = [.ref b, .ref l] ∧ Sep G ((b, o) :: M) H ∧ Bag G o ∧ (SqL K G l xs ∨ SqT K G l xs) ∧ xs.length < 100000 ∧
  ∀ (p : Addr) (ys : List V) (o' : HO) (G' H' : Hp), Same G G' → G' p = some (.lst ys) → ys.Perm xs → Bag G' o' → Sep G' ((b, o') :: M) H' → Q (.ref p) H'
theorem ok_mingled (T : Top K mg w) {k : Nat} (G_pick : FnOk P w K mg base CX0 k T.a_pick T.d_pick ["_law_bag_here", "_law_many"] spPick) : FnOk P w K mg base CX0 (k + 1) T.a_mingled T.d_mingled ["_law_bag_here", "_law_things"] (spMingled K) := by
  refine T.F_mingled.ok sc_mingled (fun vs H Q E h => ?_) (fun cdv A outer s H vs Q E hr h => ?_)
  · obtain ⟨G, M, b, o, l, xs, rfl, _⟩ := h
    rfl
  · obtain ⟨G, M, b, o, l, xs, rfl, S, B, hl, x1, q⟩ := h
    refine ⟨_, (pss_cons (ps_set (i := 2) sc_mingled.nd rfl (.inl rfl) (pe_callTy (call_listK K) (by rfl) T.m_list (by decide +kernel) (pa_cons (xv 1) pa_nil)))
      (pss_cons (ps_set (i := 3) sc_mingled.nd rfl (.inl rfl) (pe_lst pa_nil))
      (pss_cons (ps_for PassesOwn.never rfl (pi_range1 (by rfl) T.m_range (pa_cons (pe_callB (cr_lenK K) (by rfl) T.m_len (by decide +kernel) (pa_cons (xv 1) pa_nil)) pa_nil)) (pg_name (i := 4) sc_mingled.nd rfl (.inl rfl))
      (pss_one (ps_expr (pe_bmK K PySem.F.plainAttrs_list PySem.F.slot_list_append PySem.F.type_list_append mt_append (xv 3) (pa_cons (pe_bmK K PySem.F.plainAttrs_list PySem.F.slot_list_pop PySem.F.type_list_pop mt_popAt (xv 2) (pa_cons (pe_call G_pick (hr.mono (by omega)) (by rfl) T.g_pick T.F_pick.kp T.b_pick .nil pass0 (pa_cons (xv 0) (pa_cons (pe_callB (cr_lenK K) (by rfl) T.m_len (by decide +kernel) (pa_cons (xv 2) pa_nil)) pa_nil))) pa_nil)) pa_nil)))))
      (pss_one (ps_ret (xv 3)))))), ?_⟩
    refine ⟨l, xs, rfl, hl.imp S.l S.t, fun L nL => ?_⟩
    have S1 := S.new (o := .lst xs) nL
    refine ⟨sz, fun O nO => ?_⟩
    have S2 := S1.new (o := .lst []) nO
    refine ⟨_, hl.imp S2.l S2.t, _, rfl, by omega, by omega, for_range (lo := 0) (n := (xs.length : Int).toNat) (fun i σ H' => ∃ (y4 : Option V) (o' : HO) (ls os : List V), σ = [some (.ref b), some (.ref l), some (.ref L), some (.ref O), y4] ∧
      Bag G o' ∧ Sep G ((O, .lst os) :: (L, .lst ls) :: (b, o') :: M) H' ∧ ls.length + i = xs.length ∧ os.length = i ∧ (os ++ ls).Perm xs) ?_ (fun i σ H' hi h => ?_) (fun σ H' h => ?_)⟩
    · exact ⟨_, o, xs, [], rfl, B, S2, by omega, rfl, List.Perm.refl _⟩
    · obtain ⟨y4, o', ls, os, rfl, B', S3, e1, e2, pm⟩ := h
      have S4 := (S3.sw).perm (List.Perm.cons _ (List.Perm.swap _ _ _))
      have S5 := S4.sw
      -- out.append(left.pop(pick(bag, len(left))))
      refine ⟨.inl ⟨rfl, _, SqL.of S3.hd⟩, .inl ⟨rfl, _, SqL.of S4.hd⟩, _, .inl (SqL.of S4.hd), G, _, b, o', _, rfl, S5, B', by omega, by omega, fun r o2 H2 r0 r1 B2 S6 => ?_⟩
      have S7 := S6.sw
      obtain ⟨v, hv, hm⟩ := atI_in r0 r1
      have S8 := S7.set (o' := .lst (ls.eraseIdx r.toNat))
      have S9 := (S8.perm (List.Perm.cons _ (List.Perm.swap _ _ _))).sw
      refine ⟨L, ls, r, r.toNat, v, rfl, rfl, S7.hd, by omega, by omega, seqIdx r0 r1, atN r0 hv, O, os, v, rfl, rfl, S9.hd, smallL (by omega), ?_⟩
      refine ⟨_, o2, ls.eraseIdx r.toNat, os ++ [v], rfl, B2, S9.set, ?_, ?_, ?_⟩
      · rw [List.length_eraseIdx_of_lt (by omega)]
        omega
      · rw [List.length_append, e2]
        rfl
      · refine List.Perm.trans ?_ pm
        rw [List.append_assoc, List.singleton_append]
        refine List.Perm.append_left _ ?_
        exact perm_erase (atN r0 hv)
    · obtain ⟨y4, o', ls, os, rfl, B', S3, e1, e2, pm⟩ := h
      have S4 := ((S3.frz).drop)
      exact q O os o' _ _ S3.frzS upd_same (by
        have e3 : ls = [] := List.eq_nil_of_length_eq_zero (by omega)
        rw [e3, List.append_nil] at pm
        exact pm) (B'.same S3.frzS) S4

def spNumber : Sp := fun vs H Q _ => ∃ i : Int, vs = [.int i] ∧ Q (.bl true) H
theorem ok_number (T : Top K mg w) {k : Nat} : FnOk P w K mg base CX0 (k + 1) T.a_number T.d_number ["_law_thing"] spNumber := by
  refine T.F_number.ok sc_number (fun vs H Q E h => ?_) (fun cdv A outer s H vs Q E hr h => ?_)
  · obtain ⟨i, rfl, _⟩ := h
    rfl
  · obtain ⟨i, rfl, q⟩ := h
    refine ⟨_, (pss_one (ps_ret (xe_and (pe_callB (call_isK K) (by rfl) T.m_isinstance (by decide +kernel) (pa_cons (xv 0) (pa_cons (pe_bltn (v := .ty "int") (by rfl) T.m_int (by decide +kernel) rfl) pa_nil))) (pe_one (xe_not (pe_callB (call_isK K) (by rfl) T.m_isinstance (by decide +kernel) (pa_cons (xv 0) (pa_cons (pe_bltn (v := .ty "bool") (by rfl) T.m_bool (by decide +kernel) rfl) pa_nil)))))))), ?_⟩
    refine ⟨_, _, _, _, true, rfl, .ty _, .base (.int _), kit_ty (by decide +kernel), fun _ => ⟨_, _, _, _, false, rfl, .ty _, .base (.int _), kit_ty (by decide +kernel), ?_⟩, fun e => nomatch e⟩
    exact q

end
end K57
set_option Elab.async false
set_option linter.all false
set_option maxRecDepth 100000
set_option maxHeartbeats 4000000
namespace K57
open PySem PySem.Spec PyProof.Rows L2 XL
section
variable {P : Program} {w : World} {K : PySem.W.Frag} {mg : Str → Option Value} {base : Heap}
/-! ### a new name -/
def spNew : Sp := fun vs H Q _ => ∃ (G : Hp) (M : List (Addr × HO)) (b : Addr) (o : HO) (l : Addr) (zs : List Str), vs = [.ref b, .ref l] ∧ Sep G ((b, o) :: (l, .lst (zs.map V.str)) :: M) H ∧ Bag G o ∧ (∀ z ∈ zs, Lt 1 8 z) ∧ zs.length ≤ 100 ∧
  ∀ (z : Str) (o' : HO) (H' : Hp), Lt 1 8 z → z ∉ zs → z ≠ "item" → z ≠ "at" → Bag G o' → Sep G ((b, o') :: (l, .lst ((zs ++ [z]).map V.str)) :: M) H' → Q (.str z) H'
theorem letter_ix {r : Int} (h0 : 0 ≤ r) (h1 : r < 26) : ∃ c, atI LS.cps.toList r = some c ∧ c ∈ LS.cps.toList := by
  obtain ⟨k, rfl⟩ := Int.eq_ofNat_of_zero_le h0
  have z := letter_at (show k < 26 by omega)
  exact ⟨_, atI_nat z, List.mem_of_getElem? z⟩
theorem LS_len : LS.length ≤ sizeLine := by decide +kernel
theorem lt_small {a b : Nat} {z : Str} (h : Lt a b z) (hb : b ≤ 100) : z.length ≤ sizeLine := Nat.le_trans h.hi (Nat.le_trans hb (by decide))
def freshOf (p : Str) (zs : List Str) (ts : List Str) : List Str := (ts.filter fun t => !decide (p ++ t ∈ zs)).map fun t => p ++ t
theorem fresh_snoc (p : Str) (us ts : List Str) (t2 : Str) : freshOf p us (ts ++ [t2]) = freshOf p us ts ++ (if !decide (p ++ t2 ∈ us) then [p ++ t2] else []) := by
  unfold freshOf
  rw [List.filter_append, List.map_append]
  congr 1
  by_cases h : p ++ t2 ∈ us <;> simp [h]
theorem ok_new_name (T : Top K mg w) {k : Nat} (G_pick : FnOk P w K mg base CX0 k T.a_pick T.d_pick ["_law_bag_here", "_law_many"] spPick) : FnOk P w K mg base CX0 (k + 1) T.a_new_name T.d_new_name ["_law_bag_here", "_law_used"] spNew := by
  refine T.F_new_name.ok sc_new_name (fun vs H Q E h => ?_) (fun cdv A outer s H vs Q E hr h => ?_)
  · obtain ⟨G, M, b, o, l, zs, rfl, _⟩ := h
    rfl
  · obtain ⟨G, M, b, o, l, zs, rfl, S, B, hz, zl, q⟩ := h
    refine ⟨_, (pss_cons (ps_set (i := 2) sc_new_name.nd rfl (.inr rfl) pe_str)
      (pss_cons (ps_set (i := 3) sc_new_name.nd rfl (.inr rfl) (pe_join pe_str (pe_lc (own := [("_law_step", 7)]) (by rfl) sc_new_name.nd (pi_range1 (by rfl) T.m_range (pa_cons (pe_op op_addY pe_int (pe_call G_pick (hr.mono (by omega)) (by rfl) T.g_pick T.F_pick.kp T.b_pick .nil pass0 (pa_cons (xv 0) (pa_cons pe_int pa_nil)))) pa_nil)) (blkOk_by (N := ["_law_bag_here", "_law_used", "_law_letters", "_law_told", "_law_near_here", "_law_at", "_law_tails", "_law_step", "_law_k", "_law_tail"]) (sc := defScope s_new_name) (by decide +kernel)) (fun _ _ _ _ _ => (pg_name (i := 7) sc_new_name.nd rfl (.inl rfl))) (fun _ _ _ _ _ => pts_nil) (fun _ _ _ _ _ => (pe_ix (ix_k K) (xv 2) (pe_call G_pick (hr.mono (by omega)) (by rfl) T.g_pick T.F_pick.kp T.b_pick .nil pass0 (pa_cons (xv 0) (pa_cons pe_int pa_nil))) (fun _ _ => rfl))))))
      (xss_cut (xs_if (PW.pt (xw_and (xt_truK K (xv 1)) (pw_and1 (xt_cmp (op_eqLK K hr.u190) (pe_call G_pick (hr.mono (by omega)) (by rfl) T.g_pick T.F_pick.kp T.b_pick .nil pass0 (pa_cons (xv 0) (pa_cons pe_int pa_nil))) pe_int (nomark _)))))
      (pss_cons (ps_set (i := 4) sc_new_name.nd rfl (.inl rfl) (pe_slice sl_str (pe_ix (ix_k K) (xv 1) (pe_call G_pick (hr.mono (by omega)) (by rfl) T.g_pick T.F_pick.kp T.b_pick .nil pass0 (pa_cons (xv 0) (pa_cons (pe_callB (cr_lenK K) (by rfl) T.m_len (by decide +kernel) (pa_cons (xv 1) pa_nil)) pa_nil))) (fun _ _ => rfl)) po_none (po_some pe_int)))
      (pss_cons (ps_set (i := 5) sc_new_name.nd rfl (.inl rfl) (pe_call G_pick (hr.mono (by omega)) (by rfl) T.g_pick T.F_pick.kp T.b_pick .nil pass0 (pa_cons (xv 0) (pa_cons (pe_callB (cr_lenK K) (by rfl) T.m_len (by decide +kernel) (pa_cons (xv 4) pa_nil)) pa_nil))))
      (pss_one (ps_set (i := 3) sc_new_name.nd rfl (.inr rfl) (pe_op op_addY (pe_op op_addY (pe_slice sl_str (xv 4) po_none (po_some (xv 5))) (pe_ix (ix_k K) (xv 2) (pe_call G_pick (hr.mono (by omega)) (by rfl) T.g_pick T.F_pick.kp T.b_pick .nil pass0 (pa_cons (xv 0) (pa_cons pe_int pa_nil))) (fun _ _ => rfl))) (pe_slice sl_str (xv 4) (po_some (pe_op op_addY (xv 5) pe_int)) po_none))))))
      pss_nil)
      (xss_cut (xs_if (xt_cmp (in_seqK K) (xv 3) (pe_op op_addY (xv 1) (pe_lst (pa_cons pe_str (pa_cons pe_str pa_nil)))) (by rfl))
      (pss_cons (ps_setLc (i := 6) (own := [("_law_k", 8)]) (by rfl) sc_new_name.nd rfl rfl (sw_true rfl rfl rfl (by decide +kernel)) (pi_range1 (by rfl) T.m_range (pa_cons pe_int pa_nil)) (blkOk_by (N := ["_law_bag_here", "_law_used", "_law_letters", "_law_told", "_law_near_here", "_law_at", "_law_tails", "_law_step", "_law_k", "_law_tail"]) (sc := defScope s_new_name) (by decide +kernel)) (fun _ _ _ _ _ => (pg_name (i := 8) sc_new_name.nd rfl (.inl rfl))) (fun _ _ _ _ _ => pts_nil) (fun _ _ _ _ _ => (pe_op op_addY (pe_ix (ix_k K) (xv 2) (pe_op op_divY (xv 8) pe_int) (fun _ _ => rfl)) (pe_ix (ix_k K) (xv 2) (pe_op op_modY (pe_callTy cr_int (by rfl) T.m_int (by decide +kernel) (pa_cons (xv 8) pa_nil)) pe_int) (fun _ _ => rfl)))))
      (pss_one (ps_set (i := 3) sc_new_name.nd rfl (.inr rfl) (pe_ix (ix_k K) (pe_lc (own := [("_law_tail", 9)]) (by rfl) sc_new_name.nd (pi_listK K (xv 6)) (blkOk_by (N := ["_law_bag_here", "_law_used", "_law_letters", "_law_told", "_law_near_here", "_law_at", "_law_tails", "_law_step", "_law_k", "_law_tail"]) (sc := defScope s_new_name) (by decide +kernel)) (fun _ _ _ _ _ => (pg_name (i := 9) sc_new_name.nd rfl (.inl rfl))) (fun _ _ _ _ _ => (pts_one (xt_cmp (notin_seqK K) (pe_op op_addY (pe_slice sl_str (xv 3) po_none (po_some pe_int)) (xv 9)) (pe_op op_addY (xv 1) (pe_lst (pa_cons pe_str pa_nil))) (by rfl)))) (fun _ _ _ _ _ => (pe_op op_addY (pe_slice sl_str (xv 3) po_none (po_some pe_int)) (xv 9)))) pe_int (fun _ _ => rfl)))))
      pss_nil)
      (pss_cons (ps_expr (pe_bmK K PySem.F.plainAttrs_list PySem.F.slot_list_append PySem.F.type_list_append mt_append (xv 1) (pa_cons (xv 3) pa_nil)))
      (pss_one (ps_ret (xv 3)))))))), ?_⟩
    -- letters in a row
    refine ⟨⟨_, rfl⟩, G, _, b, o, 6, rfl, S, B, by decide, by decide, fun r1 o1 H1 r10 r11 B1 S1 => ⟨_, rfl, by omega, by omega, fun D nD => lc_range (lo := 0) (n := (1 + r1).toNat) (fun i H' => ∃ (o' : HO) (ys : List Str), Bag G o' ∧ Sep G ((D, .lst (ys.map V.str)) :: (b, o') :: (l, .lst (zs.map V.str)) :: M) H' ∧ ys.length = i ∧ ∀ y ∈ ys, Lt 1 1 y)
      ⟨o1, [], B1, S1.new nD, rfl, fun y hy => absurd hy (by simp)⟩ (fun i H' hi p => ?_) (fun H' p => ?_)⟩⟩
    · obtain ⟨o', ys, B', S', yl, hy⟩ := p
      refine ⟨rfl, G, _, b, o', 26, rfl, S'.sw, B', by decide, by decide, fun r2 o2 H2 r20 r21 B2 S2 => ?_⟩
      obtain ⟨c, hc, hm⟩ := letter_ix r20 r21
      refine ⟨c, LS_len, hc, ys.map V.str, S2.sw.hd, by rw [List.length_map]; exact smallL (by omega), o2, ys ++ [⟨#[c]⟩], B2, ?_, by rw [List.length_append, yl]; rfl, fun y hy' => ?_⟩
      · rw [List.map_append]
        exact S2.sw.set
      · rcases List.mem_append.mp hy' with z | z
        · exact hy y z
        · rw [List.mem_singleton.mp z]
          exact Lt.one hm
    obtain ⟨o2, ys, B2, S2, yl, hy⟩ := p
    refine ⟨_, D, ys, rfl, rfl, .inl (SqL.of S2.hd), ?_, ?_⟩
    · rw [sum_ones hy, show Str.length ("" : Str) = 0 from rfl, Nat.mul_zero]
      omega
    have S3 := S2.drop
    have lt1 : Lt 1 6 (Txt.join "" ys) := (Lt.join hy).wide (by omega) (by omega)
    generalize Txt.join "" ys = t1 at *
    -- near another one
    refine ⟨fun σ H' => ∃ (y4 y5 : Option V) (o' : HO) (t : Str), σ = [some (.ref b), some (.ref l), some (.str LS), some (.str t), y4, y5, none, none, none, none] ∧ Lt 1 6 t ∧ Bag G o' ∧ Sep G ((b, o') :: (l, .lst (zs.map V.str)) :: M) H', ?_, fun σ H4 h => ?_⟩
    · have stay : ∀ (o' : HO) (H' : Hp), Bag G o' → Sep G ((b, o') :: (l, .lst (zs.map V.str)) :: M) H' → ∃ (y4 y5 : Option V) (o' : HO) (t : Str), ([some (.ref b), some (.ref l), some (.str LS), some (.str t1), none, none, none, none, none, none] : List (Option V)) = [some (.ref b), some (.ref l), some (.str LS), some (.str t), y4, y5, none, none, none, none] ∧ Lt 1 6 t ∧ Bag G o' ∧ Sep G ((b, o') :: (l, .lst (zs.map V.str)) :: M) H' :=
        fun o' H' B' S' => ⟨_, _, o', t1, rfl, lt1, B', S'⟩
      refine ⟨_, .inl ⟨_, SqL.of S3.sw.hd, rfl⟩, fun ne => ⟨G, _, b, o2, 3, rfl, S3, B2, by decide, by decide, fun r4 o4 H4 _ _ B4 S4 => ⟨fun _ => ?_, fun _ => stay o4 H4 B4 S4⟩⟩, fun _ => ⟨ff, fun _ => stay o2 _ B2 S3⟩⟩
      have z0 : 0 < zs.length := by
        cases zs with
        | nil => cases ne
        | cons _ _ => simp
      refine ⟨_, .inl (SqL.of S4.sw.hd), G, _, b, o4, _, rfl, S4, B4, by rw [List.length_map]; omega, by rw [List.length_map]; omega, fun r5 o5 H5 r50 r51 B5 S5 => ?_⟩
      obtain ⟨v5, hv5, hm5⟩ := atI_in r50 r51
      obtain ⟨z5, hz5, rfl⟩ := List.mem_map.mp hm5
      have l5 := hz z5 hz5
      refine ⟨_, _, .inl (SqL.of S5.sw.hd), hv5, _, rfl, z5, rfl, lt_small l5 (by decide), ?_⟩
      have ln : Lt 1 6 (cutS z5 none (some (6 : Int))) := (l5.to 6).wide (by decide) (by decide)
      generalize cutS z5 none (some (6 : Int)) = nr at *
      have nlo := ln.lo
      have nhi := ln.hi
      refine ⟨lt_small ln (by decide), G, _, b, o5, _, rfl, S5, B5, by omega, by omega, fun r6 o6 H6 r60 r61 B6 S6 => ?_⟩
      obtain ⟨k6, rfl⟩ := Int.eq_ofNat_of_zero_le r60
      refine ⟨_, rfl, nr, rfl, lt_small ln (by decide), G, _, b, o6, 26, rfl, S6, B6, by decide, by decide, fun r7 o7 H7 r70 r71 B7 S7 => ?_⟩
      obtain ⟨c, hc, hm⟩ := letter_ix r70 r71
      have a1 : (cutS nr none (some (k6 : Int))).length = k6 := by rw [cut_to_len]; omega
      have a2 : (cutS nr (some ((k6 + 1 : Nat) : Int)) none).length = nr.length - (k6 + 1) := cut_from_len nr (k6 + 1) (by omega)
      refine ⟨c, LS_len, hc, ?_, fun t2 et2 => ⟨_, rfl, nr, rfl, lt_small ln (by decide), ?_, fun t3 et3 => ⟨_, _, o7, t3, rfl, ?_, B7, S7⟩⟩⟩
      · rw [a1]
        exact small (by show k6 + 1 ≤ 100000; omega)
      · rw [et2, app_len, a1]
        show k6 + 1 + (cutS nr (some ((k6 + 1 : Nat) : Int)) none).length ≤ sizeLine
        rw [a2]
        exact small (by omega)
      · rw [et3, et2]
        have p1 : Lt k6 k6 (cutS nr none (some (k6 : Int))) := ⟨by omega, by omega, fun d hd => ln.ch d (cut_mem hd)⟩
        have p2 : Lt (nr.length - (k6 + 1)) (nr.length - (k6 + 1)) (cutS nr (some ((k6 + 1 : Nat) : Int)) none) := ⟨by omega, by omega, fun d hd => ln.ch d (cut_mem hd)⟩
        exact ((p1.app (Lt.one hm)).app p2).wide (by omega) (by omega)
    obtain ⟨y4, y5, o4, t, rfl, lt, B4, S4⟩ := h
    -- one that is used
    refine ⟨fun σ H' => ∃ (y6 : Option V) (z : Str), σ = [some (.ref b), some (.ref l), some (.str LS), some (.str z), y4, y5, y6, none, none, none] ∧ Lt 1 8 z ∧ z ∉ zs ∧ z ≠ "item" ∧ z ≠ "at" ∧ Sep G ((b, o4) :: (l, .lst (zs.map V.str)) :: M) H', ?_, fun σ H5 h => ?_⟩
    · refine ⟨sz, fun A1 nA1 => ?_⟩
      have S5 := S4.new (o := .lst [.str "item", .str "at"]) nA1
      refine ⟨l, A1, zs.map V.str, [.str "item", .str "at"], rfl, rfl, S5.at (show (l, HO.lst (zs.map V.str)) ∈ _ by simp), S5.hd, small (by rw [List.length_map]; simp; omega), fun A2 nA2 => ?_⟩
      have e6 : zs.map V.str ++ [V.str "item", .str "at"] = (zs ++ (["item", "at"] : List Str)).map V.str := by rw [List.map_append]; rfl
      rw [e6]
      have S6 := S5.new (o := .lst ((zs ++ (["item", "at"] : List Str)).map V.str)) nA2
      have S7 := S6.drop.drop
      refine ⟨A2, _, rfl, .inl (SqL.of S6.hd), rfl, strs_flat _, fun e1 => ?_, fun e1 => ?_⟩
      · -- its tails
        refine ⟨676, rfl, by decide, by decide, fun D nD => lc_range (lo := 0) (n := (676 : Int).toNat) (fun i H' => Sep G ((D, .lst (((List.range i).map tail2).map V.str)) :: (b, o4) :: (l, .lst (zs.map V.str)) :: M) H') (S7.new nD) (fun i H' hi p => ?_) (fun H8 S8 => ?_)⟩
        · have hi : i < 676 := hi
          rw [Int.zero_add]
          refine ⟨rfl, ⟨by decide, by decide⟩, fun d ed _ => ⟨letter (i / 26), LS_len, ?_, by decide, fun r er r0 r1 => ⟨letter (i % 26), LS_len, ?_, small (by show 1 + 1 ≤ 100000; decide), fun t2 et2 => ⟨_, p.hd, ?_, ?_⟩⟩⟩⟩
          · have z : d = ((i / 26 : Nat) : Int) := by omega
            rw [z]
            exact atI_nat (letter_at (by omega))
          · have z : r = ((i % 26 : Nat) : Int) := by omega
            rw [z]
            exact atI_nat (letter_at (by omega))
          · rw [List.length_map, List.length_map, List.length_range]
            exact smallL (by omega)
          · rw [List.range_succ, List.map_append, List.map_append, et2]
            exact p.set
        have S8 : Sep G ((D, .lst (((List.range 676).map tail2).map V.str)) :: (b, o4) :: (l, .lst (zs.map V.str)) :: M) H8 := S8
        have ltp : Lt 1 6 (cutS t none (some (6 : Int))) := (lt.to 6).wide (by decide) (by decide)
        generalize ep : cutS t none (some (6 : Int)) = p at *
        have tl : ∀ t2 ∈ (List.range 676).map tail2, Lt 2 2 t2 := fun t2 h => by
          obtain ⟨k2, hk2, rfl⟩ := List.mem_map.mp h
          exact tail2_lt (List.mem_range.mp hk2)
        obtain ⟨ts, ets⟩ : ∃ ts, ts = (List.range 676).map tail2 := ⟨_, rfl⟩
        rw [← ets] at tl S8
        have tsl : ts.length = 676 := by rw [ets]; simp
        refine ⟨D, rfl, ⟨_, SqL.of S8.hd⟩, fun F nF => lc_list (xs := ts.map V.str) (fun i H' => Sep G ((F, .lst ((freshOf p (zs ++ (["item"] : List Str)) (ts.take i)).map V.str)) :: (D, .lst (ts.map V.str)) :: (b, o4) :: (l, .lst (zs.map V.str)) :: M) H')
          (S8.new nF) (fun i H' _ p' => SqL.of p'.sw.hd) (fun i x H' hx p' => ?_) (fun H9 S9 => ?_)⟩
        · rw [List.getElem?_map] at hx
          obtain ⟨t2, ht2, rfl⟩ := Option.map_eq_some_iff.mp hx
          have lt2 := tl t2 (List.mem_of_getElem? ht2)
          have il := (List.getElem?_eq_some_iff.mp ht2).1
          have ltb := ltp.app lt2
          have hb := ltb.hi
          rw [app_len] at hb
          have flen : (freshOf p (zs ++ (["item"] : List Str)) (ts.take i)).length ≤ 676 := by
            unfold freshOf
            rw [List.length_map]
            refine Nat.le_trans (List.length_filter_le _ _) ?_
            rw [List.length_take]
            omega
          have fstep : freshOf p (zs ++ (["item"] : List Str)) (ts.take (i + 1)) = freshOf p (zs ++ (["item"] : List Str)) (ts.take i) ++ (if !decide (p ++ t2 ∈ zs ++ (["item"] : List Str)) then [p ++ t2] else []) := by
            rw [XL.take_snoc ht2]
            exact fresh_snoc _ _ _ _
          rw [fstep]
          refine ⟨rfl, _, rfl, t, rfl, lt_small lt (by decide), ?_⟩
          rw [ep]
          refine ⟨small (by omega), fun u1 eu1 => ⟨sz, fun A3 nA3 => ?_⟩⟩
          have Sa := p'.new (o := .lst [.str "item"]) nA3
          refine ⟨l, A3, zs.map V.str, [.str "item"], rfl, rfl, Sa.at (show (l, HO.lst (zs.map V.str)) ∈ _ by simp), Sa.hd, small (by rw [List.length_map]; simp; omega), fun A4 nA4 => ?_⟩
          have e7 : zs.map V.str ++ [V.str "item"] = (zs ++ (["item"] : List Str)).map V.str := by rw [List.map_append]; rfl
          rw [e7]
          have Sb := Sa.new (o := .lst ((zs ++ (["item"] : List Str)).map V.str)) nA4
          refine ⟨A4, _, rfl, .inl (SqL.of Sb.hd), rfl, strs_flat _, ?_⟩
          have e8 : (if true = true then !inV (V.str u1) ((zs ++ (["item"] : List Str)).map V.str) else inV (V.str u1) ((zs ++ (["item"] : List Str)).map V.str)) = !decide (p ++ t2 ∈ zs ++ (["item"] : List Str)) := by rw [if_pos rfl, inV_str, eu1]
          rw [e8]
          have Sc := Sb.drop.drop
          refine tst (fun e9 => ?_) (fun e9 => ?_)
          · rw [if_pos e9]
            refine ⟨_, rfl, t, rfl, lt_small lt (by decide), ?_⟩
            rw [ep]
            refine ⟨small (by omega), fun u2 eu2 => ⟨_, Sc.hd, by rw [List.length_map]; exact smallL (by omega), ?_⟩⟩
            rw [List.map_append, eu2]
            exact Sc.set
          · rw [if_neg (by rw [e9]; exact Bool.false_ne_true), List.append_nil]
            exact Sc
        rw [List.length_map, List.take_length] at S9
        obtain ⟨k0, hk0, no⟩ := unused p (zs ++ (["item"] : List Str)) (by rw [List.length_append]; simp; omega)
        have mem : p ++ tail2 k0 ∈ freshOf p (zs ++ (["item"] : List Str)) ts := by
          unfold freshOf
          refine List.mem_map.mpr ⟨tail2 k0, List.mem_filter.mpr ⟨?_, by simpa using no⟩, rfl⟩
          rw [ets]
          exact List.mem_map.mpr ⟨k0, List.mem_range.mpr hk0, rfl⟩
        cases ef : freshOf p (zs ++ (["item"] : List Str)) ts with
        | nil => rw [ef] at mem; cases mem
        | cons z0 zr =>
          rw [ef] at S9
          have hz0 : z0 ∈ freshOf p (zs ++ (["item"] : List Str)) ts := by rw [ef]; exact List.mem_cons_self
          unfold freshOf at hz0
          obtain ⟨t2, ht2, rfl⟩ := List.mem_map.mp hz0
          obtain ⟨h1, h2⟩ := List.mem_filter.mp ht2
          have no2 : p ++ t2 ∉ zs ++ (["item"] : List Str) := by simpa using h2
          have l2 := ltp.app (tl t2 h1)
          refine ⟨_, .str (p ++ t2), .inl (SqL.of S9.hd), (show atI _ ((0 : Nat) : Int) = some _ from atI_nat rfl), _, p ++ t2, rfl, l2.wide (by decide) (by decide), fun h => no2 (List.mem_append_left _ h), fun h => no2 (List.mem_append_right _ (by rw [h]; simp)), fun h => ?_, S9.drop.drop⟩
          have l3 := l2.lo
          rw [h] at l3
          exact absurd l3 (by decide +kernel)
      · have e2 : inV (.str t) ((zs ++ (["item", "at"] : List Str)).map V.str) = false := e1
        rw [inV_str] at e2
        have no := of_decide_eq_false e2
        exact ⟨_, t, rfl, lt.wide (by decide) (by decide), fun h => no (List.mem_append_left _ h), fun h => no (List.mem_append_right _ (by rw [h]; simp)), fun h => no (List.mem_append_right _ (by rw [h]; simp)), S7⟩
    obtain ⟨y6, z, rfl, ltz, f1, f2, f3, S5⟩ := h
    refine ⟨.inl ⟨rfl, _, SqL.of S5.sw.hd⟩, l, _, _, rfl, rfl, S5.sw.hd, smallL (by rw [List.length_map]; omega), ?_⟩
    refine q z o4 _ ltz f1 f2 f3 B4 ?_
    rw [List.map_append]
    exact (S5.sw.set).sw

end
end K57
set_option Elab.async false
set_option linter.all false
set_option maxRecDepth 100000
set_option maxHeartbeats 4000000
namespace K57
open PySem PySem.Spec PyProof.Rows L2 XL
/-! ### data of a bounded size -/
theorem showAll : ∀ {xs : List PyData}, (∀ x ∈ xs, x.showable = true) → PyData.showableAll xs = true
  | [], _ => by simp only [PyData.showableAll]
  | x :: xs, h => by
    simp only [PyData.showableAll, h x (by simp), showAll (xs := xs) fun y hy => h y (List.mem_cons_of_mem _ hy), Bool.and_self]
theorem layAll : ∀ {xs : List PyData}, (∀ x ∈ xs, x.canLay0 = true) → PyData.canLayAll0 xs = true
  | [], _ => by simp only [PyData.canLayAll0]
  | x :: xs, h => by
    simp only [PyData.canLayAll0, h x (by simp), layAll (xs := xs) fun y hy => h y (List.mem_cons_of_mem _ hy), Bool.and_self]
theorem depthAll_le {n : Nat} : ∀ {xs : List PyData}, (∀ x ∈ xs, x.depth ≤ n) → PyData.depthAll xs ≤ n
  | [], _ => by simp only [PyData.depthAll]; omega
  | x :: xs, h => by
    have h1 := h x (by simp)
    have h2 := depthAll_le (xs := xs) fun y hy => h y (List.mem_cons_of_mem _ hy)
    simp only [PyData.depthAll]
    omega
theorem shortAll {n : Nat} : ∀ {xs : List PyData}, (∀ x ∈ xs, x.leavesShort n = true) → PyData.leavesShortAll n xs = true
  | [], _ => by simp only [PyData.leavesShortAll]
  | x :: xs, h => by
    simp only [PyData.leavesShortAll, h x (by simp), shortAll (xs := xs) fun y hy => h y (List.mem_cons_of_mem _ hy), Bool.and_self]
theorem weightAll_le {n : Nat} : ∀ {xs : List PyData}, (∀ x ∈ xs, x.weight ≤ n) → PyData.weightAll xs ≤ xs.length * (n + 1)
  | [], _ => by simp only [PyData.weightAll]; omega
  | x :: xs, h => by
    have h1 := h x (by simp)
    have h2 := weightAll_le (xs := xs) fun y hy => h y (List.mem_cons_of_mem _ hy)
    simp only [PyData.weightAll, List.length_cons, Nat.add_mul]
    omega
structure Fit (w dp : Nat) (d : PyData) : Prop where
  cl : d.canLay0 = true
  sh : d.showable = true
  ls : d.leavesShort 8 = true
  dp : d.depth ≤ dp
  wt : d.weight ≤ w
theorem Fit.mono {w dp w' dp' : Nat} {d : PyData} (h : Fit w dp d) (h1 : w ≤ w') (h2 : dp ≤ dp') : Fit w' dp' d := ⟨h.cl, h.sh, h.ls, Nat.le_trans h.dp h2, Nat.le_trans h.wt h1⟩
theorem Fit.shaped {w dp : Nat} {d : PyData} (h : Fit w dp d) (h2 : dp ≤ 64) : SeqAt.shaped d = true := by
  unfold SeqAt.shaped
  rw [h.cl, decide_eq_true (Nat.le_trans h.dp h2)]
  rfl
theorem Fit.self {w dp : Nat} {d : PyData} (h : Fit w dp d) : PyData.eqv d d = true := SeqAt.eqv_refl d h.cl
structure Shw (d : PyData) : Prop where
  sh : d.showable = true
  nd : d.hasDict = false
  dp : d.depth ≤ 64
  ln : d.shown.length ≤ sizeLine
theorem Fit.shw {w dp : Nat} {d : PyData} (h : Fit w dp d) (h1 : w ≤ 1048576) (h2 : dp ≤ 64) : Shw d :=
  ⟨h.sh, PyData.hasDict_of_canLay d h.cl, Nat.le_trans h.dp h2, PyData.shown_fits (B := 8) (by decide) (by decide) h.ls (Nat.le_trans h.wt (Nat.le_trans h1 (by decide)))⟩
theorem Fit.tup {w dp : Nat} {ds : List PyData} (hw : PyData.weightAll ds ≤ w) (h : ∀ d ∈ ds, ∃ w', Fit w' dp d) : Fit w (dp + 1) (.tuple ds) := by
  have dl := depthAll_le (n := dp) fun d hd => (h d hd).choose_spec.dp
  refine ⟨?_, ?_, ?_, ?_, ?_⟩
  · simp only [PyData.canLay0]; exact layAll fun d hd => (h d hd).choose_spec.cl
  · simp only [PyData.showable]; exact showAll fun d hd => (h d hd).choose_spec.sh
  · simp only [PyData.leavesShort]; exact shortAll fun d hd => (h d hd).choose_spec.ls
  · simp only [PyData.depth]; omega
  · simp only [PyData.weight]; exact hw
theorem Fit.lst {w dp : Nat} {ds : List PyData} (hw : PyData.weightAll ds ≤ w) (h : ∀ d ∈ ds, ∃ w', Fit w' dp d) : Fit w (dp + 1) (.list ds) := by
  have dl := depthAll_le (n := dp) fun d hd => (h d hd).choose_spec.dp
  refine ⟨?_, ?_, ?_, ?_, ?_⟩
  · simp only [PyData.canLay0]; exact layAll fun d hd => (h d hd).choose_spec.cl
  · simp only [PyData.showable]; exact showAll fun d hd => (h d hd).choose_spec.sh
  · simp only [PyData.leavesShort]; exact shortAll fun d hd => (h d hd).choose_spec.ls
  · simp only [PyData.depth]; omega
  · simp only [PyData.weight]; exact hw
theorem Fit.tups {w dp : Nat} {ds : List PyData} (h : ∀ d ∈ ds, Fit w dp d) : Fit (ds.length * (w + 1)) (dp + 1) (.tuple ds) := .tup (weightAll_le fun d hd => (h d hd).wt) fun d hd => ⟨w, h d hd⟩
theorem Fit.lsts {w dp : Nat} {ds : List PyData} (h : ∀ d ∈ ds, Fit w dp d) : Fit (ds.length * (w + 1)) (dp + 1) (.list ds) := .lst (weightAll_le fun d hd => (h d hd).wt) fun d hd => ⟨w, h d hd⟩
theorem Fit.str {z : Str} {w : Nat} (h : ∀ c ∈ z.cps.toList, c < 1114112) (l : z.length ≤ w) : Fit w 0 (.str z) := by
  refine ⟨?_, by simp only [PyData.showable], ?_, by simp only [PyData.depth]; omega, ?_⟩
  · simp only [PyData.canLay0]
    unfold PyData.strOk
    rw [← Array.all_toList, List.all_eq_true]
    exact fun c hc => decide_eq_true (h c hc)
  · simp only [PyData.leavesShort]
    rw [List.all_eq_true]
    exact fun c hc => decide_eq_true (Nat.lt_trans (h c hc) (by decide))
  · simp only [PyData.weight]
    exact l
theorem LS_low : ∀ c ∈ LS.cps.toList, c < 1114112 := by decide +kernel
theorem Fit.name {z : Str} {a b : Nat} (h : Lt a b z) : Fit b 0 (.str z) := .str (fun c hc => LS_low c (h.ch c hc)) h.hi
theorem dig_short : ∀ n : Nat, n < 10 → (PyData.shown (.int (n : Nat))).length ≤ 8 ∧ PyData.weight (.int (n : Nat)) ≤ 4 ∧ PyData.showable (.int (n : Nat)) = true := by decide +kernel
theorem Fit.digit {n : Int} (h0 : 0 ≤ n) (h1 : n ≤ 9) : Fit 4 0 (.int n) := by
  obtain ⟨k, rfl⟩ := Int.eq_ofNat_of_zero_le h0
  have z := dig_short k (by omega)
  refine ⟨by simp only [PyData.canLay0], z.2.2, ?_, by simp only [PyData.depth]; omega, z.2.1⟩
  simp only [PyData.leavesShort]
  exact decide_eq_true z.1
/-! ### data at a value -/
theorem dp_tup {K : PySem.W.Frag} {G : Hp} {v : V} {ds : List PyData} (h : Dp K G v (.tuple ds)) : ∃ a xs, v = .ref a ∧ SqT K G a xs ∧ DpAll K G xs ds := by
  cases h with
  | tup h1 h2 => exact ⟨_, _, rfl, h1, h2⟩
theorem dpa_cons {K : PySem.W.Frag} {G : Hp} {xs : List V} {d : PyData} {ds : List PyData} (h : DpAll K G xs (d :: ds)) : ∃ x r, xs = x :: r ∧ Dp K G x d ∧ DpAll K G r ds := by
  cases h with
  | cons h1 h2 => exact ⟨_, _, rfl, h1, h2⟩
theorem dpa_nil {K : PySem.W.Frag} {G : Hp} {xs : List V} (h : DpAll K G xs []) : xs = [] := by
  cases h
  rfl
theorem dp_str {K : PySem.W.Frag} {G : Hp} {v : V} {z : Str} (h : Dp K G v (.str z)) : v = .str z := by
  cases h
  rfl
theorem dpa_len {K : PySem.W.Frag} {G : Hp} : ∀ {xs : List V} {ds : List PyData}, DpAll K G xs ds → xs.length = ds.length
  | _, _, .nil => rfl
  | _, _, .cons _ h => congrArg (· + 1) (dpa_len h)
theorem dpa_get {K : PySem.W.Frag} {G : Hp} : ∀ {xs : List V} {ds : List PyData} {i : Nat} {x : V}, DpAll K G xs ds → xs[i]? = some x → ∃ d, ds[i]? = some d ∧ Dp K G x d
  | _, _, _, _, .nil, h => by simp at h
  | _, _, 0, _, .cons h1 _, h => by
    simp at h
    subst h
    exact ⟨_, rfl, h1⟩
  | _, _, i + 1, _, .cons _ h2, h => by
    rw [List.getElem?_cons_succ] at h
    obtain ⟨d, e1, e2⟩ := dpa_get h2 h
    exact ⟨d, by rw [List.getElem?_cons_succ]; exact e1, e2⟩
theorem dpa_app {K : PySem.W.Frag} {G : Hp} : ∀ {xs ys : List V} {ds es : List PyData}, DpAll K G xs ds → DpAll K G ys es → DpAll K G (xs ++ ys) (ds ++ es)
  | _, _, _, _, .nil, h => h
  | _, _, _, _, .cons h1 h2, h => .cons h1 (dpa_app h2 h)
theorem dpa_take {K : PySem.W.Frag} {G : Hp} : ∀ {xs : List V} {ds : List PyData} (n : Nat), DpAll K G xs ds → DpAll K G (xs.take n) (ds.take n)
  | _, _, 0, _ => .nil
  | _, _, _ + 1, .nil => .nil
  | _, _, n + 1, .cons h1 h2 => .cons h1 (dpa_take n h2)
theorem dpa_drop {K : PySem.W.Frag} {G : Hp} : ∀ {xs : List V} {ds : List PyData} (n : Nat), DpAll K G xs ds → DpAll K G (xs.drop n) (ds.drop n)
  | _, _, 0, h => h
  | _, _, _ + 1, .nil => .nil
  | _, _, n + 1, .cons _ h2 => dpa_drop n h2
theorem dpa_one {K : PySem.W.Frag} {G : Hp} {v : V} {d : PyData} (h : Dp K G v d) : DpAll K G [v] [d] := .cons h .nil
theorem Sep.mk {G H : Hp} {M : List (Addr × HO)} {p : Addr} {o : HO} (S : Sep G M H) (h : H p = none) : ∃ G', Same G G' ∧ Sep G' M (upd H p o) ∧ G' p = some o := ⟨_, S.grow h, S.newG h, upd_same⟩

/-! ### fields -/
theorem putF_ne {f g : Str} {v x : V} {r : List (Str × V)} (h : decide (g = f) = false := by decide +kernel) : putF f v ((g, x) :: r) = (g, x) :: putF f v r := by
  show (if g = f then _ else _) = _
  rw [if_neg (of_decide_eq_false h)]
theorem putF_eq {f : Str} {v x : V} {r : List (Str × V)} : putF f v ((f, x) :: r) = (f, v) :: r := by
  show (if f = f then _ else _) = _
  rw [if_pos rfl]
theorem putF_nil {f : Str} {v : V} : putF f v [] = [(f, v)] := rfl
theorem lk_ne {f g : Str} {x : V} {r : List (Str × V)} (h : (f == g) = false := by decide +kernel) : List.lookup f ((g, x) :: r) = List.lookup f r := by simp [List.lookup, h]
theorem lk_eq {f : Str} {x : V} {r : List (Str × V)} : List.lookup f ((f, x) :: r) = some x := by simp [List.lookup]
theorem Sep.keep {G H : Hp} {M : List (Addr × HO)} {p : Addr} {o : HO} (S : Sep G ((p, o) :: M) H) : ∃ G', Same G G' ∧ Sep G' M H ∧ G' p = some o := ⟨_, S.frzS, S.frz, upd_same⟩

/-! ### dicts by name -/
def dk (ns : List Str) (e : Str → Int) : List (Key × V) := ns.map fun x => (Sum.inr x, V.int (e x))
theorem dk_keys (ns : List Str) (e : Str → Int) : (dk ns e).map (fun kv => kV kv.1) = ns.map V.str := by
  unfold dk
  rw [List.map_map]
  rfl
theorem dk_len (ns : List Str) (e : Str → Int) : (dk ns e).length = ns.length := List.length_map _
theorem dk_val {e : Str → Int} {x : Str} : ∀ {ns : List Str}, x ∈ ns → valV (dk ns e) (Sum.inr x) = some (.int (e x))
  | y :: r, h => by
    unfold dk valV
    rw [List.map_cons, List.find?_cons]
    by_cases hy : y = x
    · subst hy
      simp
    · have h2 : x ∈ r := by
        rcases List.mem_cons.mp h with h | h
        · exact absurd h.symm hy
        · exact h
      have := dk_val (e := e) h2
      unfold dk valV at this
      simp only [Sum.inr.injEq, hy, decide_false]
      exact this
theorem dk_none {e : Str → Int} {x : Str} : ∀ {ns : List Str}, x ∉ ns → valV (dk ns e) (Sum.inr x) = none
  | [], _ => rfl
  | y :: r, h => by
    unfold dk valV
    rw [List.map_cons, List.find?_cons]
    have hy : ¬ y = x := fun hy => h (by rw [hy]; exact List.mem_cons_self)
    have := dk_none (e := e) (ns := r) (x := x) fun h2 => h (List.mem_cons_of_mem _ h2)
    unfold dk valV at this
    simp only [Sum.inr.injEq, hy, decide_false]
    exact this
theorem dk_put {ns : List Str} {e : Str → Int} {x : Str} {i : Nat} (nd : ns.Nodup) (hx : ns[i]? = some x) : putK (dk (ns.take i) e) (Sum.inr x) (.int (e x)) = dk (ns.take (i + 1)) e := by
  have nin : x ∉ ns.take i := fun h => by
    rw [(take_pre hx).1, List.nodup_append] at nd
    exact nd.2.2 _ h _ List.mem_cons_self rfl
  rw [putK_new _ (dk_none nin), take_snoc hx]
  simp [dk]
def ups (e : Str → Int) (y : Str) (v : Int) : Str → Int := fun x => if x = y then v else e x
theorem dk_set {ns : List Str} {e : Str → Int} {y : Str} {v : Int} (hy : y ∈ ns) : putK (dk ns e) (Sum.inr y) (.int v) = dk ns (ups e y v) := by
  unfold putK
  rw [valV_any, dk_val hy, Option.isSome_some, if_pos rfl]
  unfold dk
  rw [List.map_map]
  refine List.map_congr_left fun x hx => ?_
  simp only [Function.comp_apply, Sum.inr.injEq, ups]
  by_cases h : x = y
  · rw [if_pos h, if_pos h]
  · rw [if_neg h, if_neg h]
theorem dk_congr {ns : List Str} {e e' : Str → Int} (h : ∀ x ∈ ns, e x = e' x) : dk ns e = dk ns e' := by
  unfold dk
  exact List.map_congr_left fun x hx => by rw [h x hx]
/-! ### shapes of texts -/
def txD (x : Str) : PyData := .tuple [.str "text", .tuple [.str "get", .str x]]
def coD (nn : List Str) : PyData := .tuple [.str "col", .tuple (nn.map txD)]
/-- col(text(get x), ..) -/
structure ShAt (K : PySem.W.Frag) (G : Hp) (v : V) (nn : List Str) : Prop where
  dp : Dp K G v (coD nn)
theorem sh_at {K : PySem.W.Frag} {G : Hp} {v : V} {nn : List Str} (h : Dp K G v (coD nn)) : ∃ a b us, v = .ref a ∧ SqT K G a [.str "col", .ref b] ∧ SqT K G b us ∧ DpAll K G us (nn.map txD) := by
  obtain ⟨a, xs, rfl, h1, h2⟩ := dp_tup h
  obtain ⟨x1, r1, rfl, h3, h4⟩ := dpa_cons h2
  obtain ⟨x2, r2, rfl, h5, h6⟩ := dpa_cons h4
  cases h6
  rw [dp_str h3] at h1
  obtain ⟨b, us, rfl, h7, h8⟩ := dp_tup h5
  exact ⟨a, b, us, rfl, h1, h7, h8⟩
theorem tx_at {K : PySem.W.Frag} {G : Hp} {v : V} {x : Str} (h : Dp K G v (txD x)) : ∃ a b, v = .ref a ∧ SqT K G a [.str "text", .ref b] ∧ SqT K G b [.str "get", .str x] := by
  obtain ⟨a, xs, rfl, h1, h2⟩ := dp_tup h
  obtain ⟨x1, r1, rfl, h3, h4⟩ := dpa_cons h2
  obtain ⟨x2, r2, rfl, h5, h6⟩ := dpa_cons h4
  cases h6
  rw [dp_str h3] at h1
  obtain ⟨b, us, rfl, h7, h8⟩ := dp_tup h5
  obtain ⟨y1, s1, rfl, g3, g4⟩ := dpa_cons h8
  obtain ⟨y2, s2, rfl, g5, g6⟩ := dpa_cons g4
  cases g6
  rw [dp_str g3, dp_str g5] at h7
  exact ⟨a, b, rfl, h1, h7⟩

section
variable {P : Program} {w : World} {K : PySem.W.Frag} {mg : Str → Option Value} {base : Heap}
end
end K57
set_option Elab.async false
set_option linter.all false
set_option maxRecDepth 100000
set_option maxHeartbeats 4000000
namespace K57
open PySem PySem.Spec PyProof.Rows L2 XL
/-! ### forms by name -/
inductive Gm where
  | is (n : Int)
  | get (x : Str)
  | sum (a b : Gm)
  | same (a b : Gm)
  | pick (a b c : Gm)
def Gm.dep : Gm → Nat
  | .is _ => 1
  | .get _ => 1
  | .sum a b => max a.dep b.dep + 1
  | .same a b => max a.dep b.dep + 1
  | .pick a b c => max a.dep (max b.dep c.dep) + 1
def Gm.val (e : Str → Int) : Gm → Int
  | .is n => n
  | .get x => e x
  | .sum a b => (a.val e + b.val e) % 10
  | .same a b => if a.val e = b.val e then 1 else 0
  | .pick a b c => if a.val e = 0 then c.val e else b.val e
def Gm.ok (ns : List Str) : Gm → Prop
  | .is n => 0 ≤ n ∧ n ≤ 9
  | .get x => x ∈ ns
  | .sum a b => a.ok ns ∧ b.ok ns
  | .same a b => a.ok ns ∧ b.ok ns
  | .pick a b c => a.ok ns ∧ b.ok ns ∧ c.ok ns
theorem Gm.dep_pos (f : Gm) : 0 < f.dep := by cases f <;> simp [Gm.dep]
theorem Gm.val_congr {ns : List Str} {e e' : Str → Int} (h : ∀ x ∈ ns, e x = e' x) : ∀ f : Gm, f.ok ns → f.val e = f.val e'
  | .is n, _ => rfl
  | .get x, ok => h x ok
  | .sum a b, ok => by rw [Gm.val, Gm.val, Gm.val_congr h a ok.1, Gm.val_congr h b ok.2]
  | .same a b, ok => by rw [Gm.val, Gm.val, Gm.val_congr h a ok.1, Gm.val_congr h b ok.2]
  | .pick a b c, ok => by rw [Gm.val, Gm.val, Gm.val_congr h a ok.1, Gm.val_congr h b ok.2.1, Gm.val_congr h c ok.2.2]
theorem Gm.val_ok {ns : List Str} {e : Str → Int} (h : ∀ x ∈ ns, 0 ≤ e x ∧ e x ≤ 9) : ∀ f : Gm, f.ok ns → 0 ≤ f.val e ∧ f.val e ≤ 9
  | .is n, ok => ok
  | .get x, ok => h x ok
  | .sum a b, _ => by rw [Gm.val]; omega
  | .same a b, _ => by rw [Gm.val]; split <;> omega
  | .pick a b c, ok => by
    rw [Gm.val]
    split
    · exact Gm.val_ok h c ok.2.2
    · exact Gm.val_ok h b ok.2.1
inductive GmAt (K : PySem.W.Frag) (G : Hp) : V → Gm → Prop where
  | is {p : Addr} {n : Int} (h : SqT K G p [.str "is", .int n]) : GmAt K G (.ref p) (.is n)
  | get {p : Addr} {x : Str} (h : SqT K G p [.str "get", .str x]) : GmAt K G (.ref p) (.get x)
  | sum {p : Addr} {u v : V} {a b : Gm} (h : SqT K G p [.str "sum", u, v]) (h2 : GmAt K G u a) (h3 : GmAt K G v b) : GmAt K G (.ref p) (.sum a b)
  | same {p : Addr} {u v : V} {a b : Gm} (h : SqT K G p [.str "same", u, v]) (h2 : GmAt K G u a) (h3 : GmAt K G v b) : GmAt K G (.ref p) (.same a b)
  | pick {p : Addr} {u v w : V} {a b c : Gm} (h : SqT K G p [.str "pick", u, v, w]) (h2 : GmAt K G u a) (h3 : GmAt K G v b) (h4 : GmAt K G w c) : GmAt K G (.ref p) (.pick a b c)
theorem GmAt.same' {K : PySem.W.Frag} {G G' : Hp} (e : Same G G') {v : V} {f : Gm} (h : GmAt K G v f) : GmAt K G' v f := by
  induction h with
  | is h => exact .is (same_t e h)
  | get h => exact .get (same_t e h)
  | sum h _ _ h2 h3 => exact .sum (same_t e h) h2 h3
  | same h _ _ h2 h3 => exact .same (same_t e h) h2 h3
  | pick h _ _ _ h2 h3 h4 => exact .pick (same_t e h) h2 h3 h4
theorem wd {a b : Str} {A : Prop} (h : decide (a = b) = true) (n : decide (a = b) = false := by decide +kernel) : A := by rw [n] at h; cases h
theorem we {a : Str} {A : Prop} (h : decide (a = a) = false) : A := by rw [decide_eq_true rfl] at h; cases h
/-- a dict by name at an address -/
def DkAt (H : Hp) (d : Addr) (ns : List Str) (e : Str → Int) : Prop := H d = some (.dK (dk ns e))
theorem dk_get {H : Hp} {d : Addr} {ns : List Str} {e : Str → Int} {x : Str} (h : H d = some (.dK (dk ns e))) (hx : x ∈ ns) : DGet H d (.str x) (some (.int (e x))) := by
  rw [← dk_val hx]
  exact DGet.k (k := Sum.inr x) h

section
variable {P : Program} {w : World} {K : PySem.W.Frag} {mg : Str → Option Value} {base : Heap}
theorem fn_false {P : Program} {w : World} {K : PySem.W.Frag} {mg : Str → Option Value} {base : Heap} {CX : CXT} {k : Nat} {f : Addr} {fd : FuncData} {ps : List Str} {sp : Sp} (h : ∀ vs H Q E, sp vs H Q E → False) : FnOk P w K mg base CX k f fd ps sp :=
  ⟨fun vs H Q E q => (h vs H Q E q).elim, fun A outer s H args us vs Q E hr he hb hv q => (h vs H Q E q).elim⟩
def spForm (K : PySem.W.Frag) (d : Nat) : Sp := fun vs H Q _ => ∃ (G : Hp) (M : List (Addr × HO)) (b : Addr) (o : HO) (l : Addr) (ns : List Str) (n : Int), vs = [.ref b, .ref l, .int n] ∧ Sep G ((b, o) :: M) H ∧ Bag G o ∧ G l = some (.lst (ns.map V.str)) ∧ ns.length ≤ 100 ∧ 1 ≤ n ∧ n ≤ d ∧
  ∀ (v : V) (f : Gm) (o' : HO) (G' H' : Hp), Same G G' → GmAt K G' v f → f.ok ns → f.dep ≤ n → Bag G' o' → Sep G' ((b, o') :: M) H' → Q v H'
theorem ok_form (T : Top K mg w) {k : Nat} (G_pick : FnOk P w K mg base CX0 k T.a_pick T.d_pick ["_law_bag_here", "_law_many"] spPick) (G_choice : FnOk P w K mg base CX0 k T.a_choice T.d_choice ["_law_bag_here", "_law_things"] (spChoice K)) :
    ∀ d : Nat, FnOk P w K mg base CX0 (k + 1 + d) T.a_form T.d_form ["_law_bag_here", "_law_readable", "_law_levels"] (spForm K d)
  | 0 => fn_false fun vs H Q E h => by
    obtain ⟨G, M, b, o, l, xs, n, _, _, _, _, _, h1, h2, _⟩ := h
    omega
  | d + 1 => by
    have G_form := ok_form T G_pick G_choice d
    refine T.F_form.ok sc_form (fun vs H Q E h => ?_) (fun cdv A outer s H vs Q E hr h => ?_)
    · obtain ⟨G, M, b, o, l, xs, n, rfl, _⟩ := h
      rfl
    · obtain ⟨G, M, b, o, l, ns, n, rfl, S, B, hl, x1, n1, n2, q⟩ := h
      have hr : Room (k + 1 + d) (A.deeper (envOfC (Str.ofString "_law_form") (defScope s_form) s.heap.objs.size T.a_form cdv)) := hr
      refine ⟨_, (pss_cons (ps_set (i := 3) sc_form.nd rfl (.inl rfl) (pe_call G_pick (hr.mono (by omega)) (by rfl) T.g_pick T.F_pick.kp T.b_pick .nil pass0 (pa_cons (xv 0) (pa_cons pe_int pa_nil))))
      (pss_cons (xs_if (PW.pt (xw_or (xt_cmp op_leY (xv 2) pe_int (nomark _)) (pw_or1 (xt_cmp op_ltY (xv 3) pe_int (nomark _)))))
      (pss_cons (xs_if (PW.pt (xw_or (pt_not (xt_truK K (xv 1))) (pw_or1 (PW.pt (xw_and (xt_cmp (op_eqLK K hr.u190) (xv 3) pe_int (nomark _)) (pw_and1 (xt_cmp (op_eqLK K hr.u190) (pe_call G_pick (hr.mono (by omega)) (by rfl) T.g_pick T.F_pick.kp T.b_pick .nil pass0 (pa_cons (xv 0) (pa_cons pe_int pa_nil))) pe_int (nomark _))))))))
      (pss_one (ps_ret (pe_tup (pa_cons pe_str (pa_cons (pe_call G_pick (hr.mono (by omega)) (by rfl) T.g_pick T.F_pick.kp T.b_pick .nil pass0 (pa_cons (xv 0) (pa_cons pe_int pa_nil))) pa_nil)))))
      pss_nil)
      (pss_one (ps_ret (pe_tup (pa_cons pe_str (pa_cons (pe_call G_choice (hr.mono (by omega)) (by rfl) T.g_choice T.F_choice.kp T.b_choice .nil pass0 (pa_cons (xv 0) (pa_cons (xv 1) pa_nil))) pa_nil))))))
      pss_nil)
      (pss_cons (ps_set (i := 4) sc_form.nd rfl (.inl rfl) (pe_call G_form (hr.mono (by omega)) (by rfl) T.g_form T.F_form.kp T.b_form .nil pass0 (pa_cons (xv 0) (pa_cons (xv 1) (pa_cons (pe_op op_subY (xv 2) pe_int) pa_nil)))))
      (pss_cons (ps_set (i := 5) sc_form.nd rfl (.inl rfl) (pe_call G_form (hr.mono (by omega)) (by rfl) T.g_form T.F_form.kp T.b_form .nil pass0 (pa_cons (xv 0) (pa_cons (xv 1) (pa_cons (pe_op op_subY (xv 2) pe_int) pa_nil)))))
      (pss_cons (xs_if (xt_cmp op_ltY (xv 3) pe_int (nomark _))
      (pss_one (ps_ret (pe_tup (pa_cons (pe_ix (ix_k K) (pe_lst (pa_cons pe_str (pa_cons pe_str (pa_cons pe_str pa_nil)))) (pe_op op_subY (xv 3) pe_int) (fun _ _ => rfl)) (pa_cons (xv 4) (pa_cons (xv 5) pa_nil))))))
      pss_nil)
      (pss_one (ps_ret (pe_tup (pa_cons pe_str (pa_cons (xv 4) (pa_cons (xv 5) (pa_cons (pe_call G_form (hr.mono (by omega)) (by rfl) T.g_form T.F_form.kp T.b_form .nil pass0 (pa_cons (xv 0) (pa_cons (xv 1) (pa_cons (pe_op op_subY (xv 2) pe_int) pa_nil)))) pa_nil)))))))))))), ?_⟩
      have nml : (ns.map V.str).length = ns.length := List.length_map _
      refine ⟨G, M, b, o, 8, rfl, S, B, by decide, by decide, fun w1 o1 H1 w0 w8 B1 S1 => ?_⟩
      have isQ : ∀ o2 H2, Bag G o2 → Sep G ((b, o2) :: M) H2 → ∀ r : Int, 0 ≤ r → r < 10 → ∀ t, H2 t = none → Q (.ref t) (upd H2 t (.tup [.str "is", .int r])) := fun o2 H2 B2 S2 r r0 r1 t nt =>
        q _ (.is r) o2 _ _ (S2.grow nt) (.is (SqT.of upd_same)) ⟨r0, by omega⟩ n1 (B2.same (S2.grow nt)) (S2.newG nt)
      refine ⟨fun e1 => ⟨fun _ => ?_, tt⟩, fun e1 => ⟨fun e2 => ?_, fun e2 => ?_⟩⟩
      rotate_left 2
      · have n2' : ¬ n ≤ 1 := of_decide_eq_false e1
        have w3 : ¬ w1 < 3 := of_decide_eq_false e2
        refine ⟨G, M, b, o1, l, ns, n - 1, rfl, S1, B1, hl, x1, by omega, by omega, fun v1 f1 o2 G2 H2 s2 hf1 ok1 d1 B2 S2 => ?_⟩
        refine ⟨G2, M, b, o2, l, ns, n - 1, rfl, S2, B2, s2 _ _ hl, x1, by omega, by omega, fun v2 f2 o3 G3 H3 s3 hf2 ok2 d2 B3 S3 => ⟨fun e3 => ?_, fun e3 => ?_⟩⟩
        · have w6 : w1 < 6 := of_decide_eq_true e3
          refine ⟨sz, fun t0 nt0 => ?_⟩
          have S4 := S3.newG (o := .lst [.str "sum", .str "sum", .str "same"]) nt0
          have s4 := S3.grow (o := .lst [.str "sum", .str "sum", .str "same"]) nt0
          obtain rfl | rfl | rfl : w1 = 3 ∨ w1 = 4 ∨ w1 = 5 := by omega
          · refine ⟨_, _, .inl (SqL.of upd_same), rfl, sz, fun t nt => ?_⟩
            have s5 := s4.trans (S4.grow (o := .tup [.str "sum", v1, v2]) nt)
            exact q _ (.sum f1 f2) o3 _ _ (s2.trans (s3.trans s5)) (.sum (SqT.of upd_same) (hf1.same' (s3.trans s5)) (hf2.same' s5)) ⟨ok1, ok2⟩ (by simp only [Gm.dep]; omega) (B3.same s5) (S4.newG nt)
          · refine ⟨_, _, .inl (SqL.of upd_same), rfl, sz, fun t nt => ?_⟩
            have s5 := s4.trans (S4.grow (o := .tup [.str "sum", v1, v2]) nt)
            exact q _ (.sum f1 f2) o3 _ _ (s2.trans (s3.trans s5)) (.sum (SqT.of upd_same) (hf1.same' (s3.trans s5)) (hf2.same' s5)) ⟨ok1, ok2⟩ (by simp only [Gm.dep]; omega) (B3.same s5) (S4.newG nt)
          · refine ⟨_, _, .inl (SqL.of upd_same), rfl, sz, fun t nt => ?_⟩
            have s5 := s4.trans (S4.grow (o := .tup [.str "same", v1, v2]) nt)
            exact q _ (.same f1 f2) o3 _ _ (s2.trans (s3.trans s5)) (.same (SqT.of upd_same) (hf1.same' (s3.trans s5)) (hf2.same' s5)) ⟨ok1, ok2⟩ (by simp only [Gm.dep]; omega) (B3.same s5) (S4.newG nt)
        · refine ⟨G3, M, b, o3, l, ns, n - 1, rfl, S3, B3, (s2.trans s3) _ _ hl, x1, by omega, by omega, fun v3 f3 o4 G4 H4 s4 hf3 ok3 d3 B4 S4 => ⟨sz, fun t nt => ?_⟩⟩
          have s5 := S4.grow (o := .tup [.str "pick", v1, v2, v3]) nt
          exact q _ (.pick f1 f2 f3) o4 _ _ (s2.trans (s3.trans (s4.trans s5))) (.pick (SqT.of upd_same) (hf1.same' (s3.trans (s4.trans s5))) (hf2.same' (s4.trans s5)) (hf3.same' s5)) ⟨ok1, ok2, ok3⟩ (by simp only [Gm.dep]; omega) (B4.same s5) (S4.newG nt)
      all_goals
        have getQ : ∀ o2 H2, Bag G o2 → Sep G ((b, o2) :: M) H2 → ∀ v, v ∈ ns.map V.str → ∀ t, H2 t = none → Q (.ref t) (upd H2 t (.tup [.str "get", v])) := fun o2 H2 B2 S2 v hv t nt => by
          obtain ⟨z, hz, rfl⟩ := List.mem_map.mp hv
          exact q _ (.get z) o2 _ _ (S2.grow nt) (.get (SqT.of upd_same)) hz n1 (B2.same (S2.grow nt)) (S2.newG nt)
        refine ⟨!(ns.map V.str).isEmpty, .inl ⟨_, SqL.of (S1.st hl), rfl⟩, fun _ => ?_, fun e => ?_⟩
        · exact ⟨fun _ => ⟨G, M, b, o1, 10, rfl, S1, B1, by decide, by decide, fun r3 o3 H3 r30 r31 B3 S3 => ⟨sz, fun t nt => isQ o3 H3 B3 S3 r3 r30 r31 t nt⟩⟩, tt⟩
        have x0 : 0 < ns.length := by
          cases ns with
          | nil => exact nomatch e
          | cons _ _ => simp
        refine ⟨fun _ => ?_, fun _ => ⟨ff, fun _ => ?_⟩⟩
        · refine ⟨G, M, b, o1, 2, rfl, S1, B1, by decide, by decide, fun r2 o2 H2 _ _ B2 S2 => ⟨fun _ => ?_, fun _ => ?_⟩⟩
          · exact ⟨G, M, b, o2, 10, rfl, S2, B2, by decide, by decide, fun r3 o3 H3 r30 r31 B3 S3 => ⟨sz, fun t nt => isQ o3 H3 B3 S3 r3 r30 r31 t nt⟩⟩
          · exact ⟨G, M, b, o2, l, _, rfl, S2, B2, SqL.of hl, by omega, by omega, fun v o3 H3 hv B3 S3 => ⟨sz, fun t nt => getQ o3 H3 B3 S3 v hv t nt⟩⟩
        · exact ⟨G, M, b, o1, l, _, rfl, S1, B1, SqL.of hl, by omega, by omega, fun v o3 H3 hv B3 S3 => ⟨sz, fun t nt => getQ o3 H3 B3 S3 v hv t nt⟩⟩

end
end K57
set_option Elab.async false
set_option linter.all false
set_option maxRecDepth 100000
set_option maxHeartbeats 4000000
namespace K57
open PySem PySem.Spec PyProof.Rows L2 XL
section
variable {P : Program} {w : World} {K : PySem.W.Frag} {mg : Str → Option Value} {base : Heap}
theorem wn {a b : Str} {A : Prop} (h : (!decide (a = b)) = false) (n : decide (a = b) = false := by decide +kernel) : A := by rw [n] at h; cases h
theorem wm {a : Str} {A : Prop} (h : (!decide (a = a)) = true) : A := by rw [decide_eq_true rfl] at h; cases h
theorem at0 {x : V} {r : List V} : atI (x :: r) 0 = some x := atI_nat (j := 0) rfl
def Gm.size : Gm → Nat
  | .is _ => 1
  | .get _ => 1
  | .sum a b => a.size + b.size + 1
  | .same a b => a.size + b.size + 1
  | .pick a b c => a.size + b.size + c.size + 1
theorem Gm.size_pos (f : Gm) : 0 < f.size := by cases f <;> simp [Gm.size]
/-- the children of a form that is no leaf -/
def Kid (K : PySem.W.Frag) (ns : List Str) (G : Hp) (n : Nat) (v : V) (c : Gm) : Prop := GmAt K G v c ∧ c.ok ns ∧ c.dep < n
def sizes : List Gm → Nat
  | [] => 0
  | c :: r => c.size + sizes r
theorem GmAt.kids {K : PySem.W.Frag} {ns : List Str} {G : Hp} {v : V} {f : Gm} (h : GmAt K G v f) (ok : f.ok ns) : (∃ p n, v = .ref p ∧ SqT K G p [.str "is", .int n] ∧ f = .is n) ∨ (∃ p x, v = .ref p ∧ SqT K G p [.str "get", .str x] ∧ f = .get x) ∨
    ∃ (p : Addr) (u : Str) (vs : List V) (cs : List Gm), v = .ref p ∧ SqT K G p (.str u :: vs) ∧ Paired (Kid K ns G f.dep) vs cs ∧ decide (u = "is") = false ∧ decide (u = "get") = false ∧ sizes cs + 1 = f.size ∧ 1 ≤ vs.length ∧ vs.length ≤ 3 := by
  cases h with
  | is h => exact .inl ⟨_, _, rfl, h, rfl⟩
  | get h => exact .inr (.inl ⟨_, _, rfl, h, rfl⟩)
  | @sum p v1 v2 a b h h1 h2 =>
    refine .inr (.inr ⟨p, "sum", [v1, v2], [a, b], rfl, h, .cons ⟨h1, ok.1, ?_⟩ (.cons ⟨h2, ok.2, ?_⟩ .nil), by decide +kernel, by decide +kernel, ?_, by simp, by simp⟩)
    · simp only [Gm.dep]; omega
    · simp only [Gm.dep]; omega
    · simp only [sizes, Gm.size]; omega
  | @same p v1 v2 a b h h1 h2 =>
    refine .inr (.inr ⟨p, "same", [v1, v2], [a, b], rfl, h, .cons ⟨h1, ok.1, ?_⟩ (.cons ⟨h2, ok.2, ?_⟩ .nil), by decide +kernel, by decide +kernel, ?_, by simp, by simp⟩)
    · simp only [Gm.dep]; omega
    · simp only [Gm.dep]; omega
    · simp only [sizes, Gm.size]; omega
  | @pick p v1 v2 v3 a b c h h1 h2 h3 =>
    refine .inr (.inr ⟨p, "pick", [v1, v2, v3], [a, b, c], rfl, h, .cons ⟨h1, ok.1, ?_⟩ (.cons ⟨h2, ok.2.1, ?_⟩ (.cons ⟨h3, ok.2.2, ?_⟩ .nil)), by decide +kernel, by decide +kernel, ?_, by simp, by simp⟩)
    · simp only [Gm.dep]; omega
    · simp only [Gm.dep]; omega
    · simp only [Gm.dep]; omega
    · simp only [sizes, Gm.size]; omega
theorem Kid.same {K : PySem.W.Frag} {ns : List Str} {G G' : Hp} (e : Same G G') {n : Nat} {v : V} {c : Gm} (h : Kid K ns G n v c) : Kid K ns G' n v c := ⟨h.1.same' e, h.2⟩
theorem Gm.size_le (f : Gm) : f.size + 1 ≤ 3 ^ f.dep * 2 := by
  induction f with
  | is n => simp [Gm.size, Gm.dep]
  | get x => simp [Gm.size, Gm.dep]
  | sum a b ha hb =>
    simp only [Gm.size, Gm.dep]
    have h1 : 3 ^ a.dep ≤ 3 ^ max a.dep b.dep := Nat.pow_le_pow_right (by decide) (Nat.le_max_left _ _)
    have h2 : 3 ^ b.dep ≤ 3 ^ max a.dep b.dep := Nat.pow_le_pow_right (by decide) (Nat.le_max_right _ _)
    have h3 : 3 ^ (max a.dep b.dep + 1) = 3 ^ max a.dep b.dep * 3 := Nat.pow_succ ..
    omega
  | same a b ha hb =>
    simp only [Gm.size, Gm.dep]
    have h1 : 3 ^ a.dep ≤ 3 ^ max a.dep b.dep := Nat.pow_le_pow_right (by decide) (Nat.le_max_left _ _)
    have h2 : 3 ^ b.dep ≤ 3 ^ max a.dep b.dep := Nat.pow_le_pow_right (by decide) (Nat.le_max_right _ _)
    have h3 : 3 ^ (max a.dep b.dep + 1) = 3 ^ max a.dep b.dep * 3 := Nat.pow_succ ..
    omega
  | pick a b c ha hb hc =>
    simp only [Gm.size, Gm.dep]
    have h1 : 3 ^ a.dep ≤ 3 ^ max a.dep (max b.dep c.dep) := Nat.pow_le_pow_right (by decide) (Nat.le_max_left _ _)
    have h2 : 3 ^ b.dep ≤ 3 ^ max a.dep (max b.dep c.dep) := Nat.pow_le_pow_right (by decide) (by omega)
    have h2' : 3 ^ c.dep ≤ 3 ^ max a.dep (max b.dep c.dep) := Nat.pow_le_pow_right (by decide) (by omega)
    have h3 : 3 ^ (max a.dep (max b.dep c.dep) + 1) = 3 ^ max a.dep (max b.dep c.dep) * 3 := Nat.pow_succ ..
    omega
theorem Gm.size5 {f : Gm} (h : f.dep ≤ 5) : f.size ≤ 485 := by
  have h1 := f.size_le
  have h2 : 3 ^ f.dep ≤ 3 ^ 5 := Nat.pow_le_pow_right (by decide) h
  have h3 : 3 ^ 5 = 243 := rfl
  omega
def spNumberIn : Sp := fun vs H Q _ => ∃ i l h : Int, vs = [.int i, .int l, .int h] ∧ l ≤ i ∧ i ≤ h ∧ Q (.bl true) H
theorem ok_is_number (T : Top K mg w) {k : Nat} : FnOk P w K mg base CX0 (k + 1) T.a_is_number T.d_is_number ["thing", "low", "high"] spNumberIn := by
  refine T.F_is_number.ok sc_is_number (fun vs H Q E h => ?_) (fun cdv A outer s H vs Q E hr h => ?_)
  · obtain ⟨i, l, h', rfl, _⟩ := h
    rfl
  · obtain ⟨i, l, h', rfl, h1, h2, q⟩ := h
    refine ⟨_, (pss_one (ps_ret (xe_and (pe_callB (call_isK K) (by rfl) T.m_isinstance (by decide +kernel) (pa_cons (xv 0) (pa_cons (pe_bltn (v := .ty "int") (by rfl) T.m_int (by decide +kernel) rfl) pa_nil))) (xe_and (xe_not (pe_callB (call_isK K) (by rfl) T.m_isinstance (by decide +kernel) (pa_cons (xv 0) (pa_cons (pe_bltn (v := .ty "bool") (by rfl) T.m_bool (by decide +kernel) rfl) pa_nil)))) (pe_one (xe_chain op_leY op_leY (xv 1) (xv 0) (xv 2))))))), ?_⟩
    refine ⟨_, _, _, _, true, rfl, .ty _, .base (.int _), kit_ty (by decide +kernel), fun _ => ⟨_, _, _, _, false, rfl, .ty _, .base (.int _), kit_ty (by decide +kernel), fun _ => ?_, tt⟩, tt⟩
    refine ⟨fun _ => ?_, fun e => absurd h1 (of_decide_eq_false e)⟩
    have e : decide (i ≤ h') = true := decide_eq_true h2
    show Q (.bl (decide (i ≤ h'))) H
    rw [e]
    exact q
def spName : Sp := fun vs H Q _ => ∃ (G : Hp) (M : List (Addr × HO)) (x : Str), vs = [.str x] ∧ Sep G M H ∧ Lt 1 8 x ∧ ∀ G' H', Same G G' → Sep G' M H' → Q (.bl true) H'
theorem ok_is_name (T : Top K mg w) {k : Nat} : FnOk P w K mg base CX0 (k + 1) T.a_is_name T.d_is_name ["thing"] spName := by
  refine T.F_is_name.ok sc_is_name (fun vs H Q E h => ?_) (fun cdv A outer s H vs Q E hr h => ?_)
  · obtain ⟨G, M, x, rfl, _⟩ := h
    rfl
  · obtain ⟨G, M, x, rfl, S, hx, q⟩ := h
    refine ⟨_, (pss_cons (xs_if (PW.pt (xw_or (pt_not (xt_truK K (pe_callB (call_isK K) (by rfl) T.m_isinstance (by decide +kernel) (pa_cons (xv 0) (pa_cons (pe_bltn (v := .ty "str") (by rfl) T.m_str (by decide +kernel) rfl) pa_nil))))) (xw_or (xt_cmp op_ltY (pe_callB (cr_lenK K) (by rfl) T.m_len (by decide +kernel) (pa_cons (xv 0) pa_nil)) pe_int (nomark _)) (pw_or1 (xt_cmp op_gtY (pe_callB (cr_lenK K) (by rfl) T.m_len (by decide +kernel) (pa_cons (xv 0) pa_nil)) pe_int (nomark _))))))
      (pss_one (ps_ret pe_bl))
      pss_nil)
      (pss_one (ps_ret (pe_callB (cr_allK K rfl) (by rfl) T.m_all (by decide +kernel) (pa_cons (pe_lc (own := [("sign", 1)]) (by rfl) sc_is_name.nd (pi_str (xv 0)) (blkOk_by (N := ["thing", "sign"]) (sc := defScope s_is_name) (by decide +kernel)) (fun _ _ _ _ _ => (pg_name (i := 1) sc_is_name.nd rfl (.inl rfl))) (fun _ _ _ _ _ => pts_nil) (fun _ _ _ _ _ => (pe_cmpR op_in_sign (xv 1) (xe_glob (by rfl) T.v_LETTERS_orders) (by rfl)))) pa_nil))))), ?_⟩
    have hl1 := hx.lo
    have hl2 := hx.hi
    have hz : x.length ≤ sizeLine := small (by omega)
    refine ⟨_, _, _, _, true, rfl, .ty _, .base (.str _), kit_ty (by decide +kernel), ff, fun _ => ⟨hz, fun e => ?_, fun _ => ⟨hz, fun e => ?_, fun _ => ?_⟩⟩⟩
    · have z := of_decide_eq_true e
      omega
    · have z : (8 : Int) < x.length := of_decide_eq_true e
      omega
    · refine ⟨x, rfl, fun L nL => lc_it (walk_str (z := x)) (fun i H' => Sep G ((L, .lst (List.replicate i (V.bl true))) :: M) H') (S.new nL) (fun _ _ _ _ => trivial) (fun i v H1 H' hi p y => ?_) (fun H' S1 => ?_)⟩
      · obtain ⟨rfl, c, hc, rfl⟩ := y
        refine ⟨rfl, c, _, rfl, rfl, _, p.hd, ?_, ?_⟩
        · rw [List.length_replicate]
          exact smallL (by have z : x.cps.size = x.length := rfl; omega)
        · have hm : decide (c ∈ ("abcdefghijklmnopqrstuvwxyz" : Str).cps.toList) = true := decide_eq_true (hx.ch c (by
            rw [Array.mem_toList_iff]
            exact Array.mem_of_getElem? hc))
          rw [hm, List.replicate_succ']
          exact p.set
      · refine ⟨L, List.replicate x.cps.size true, rfl, ?_, ?_⟩
        · rw [List.map_replicate]
          exact SqL.of S1.hd
        · have e : (List.replicate x.cps.size true).all id = true := by simp
          rw [e]
          exact q _ _ S1.frzS S1.frz
def spPart (K : PySem.W.Frag) : Sp := fun vs H Q _ => ∃ (G : Hp) (M : List (Addr × HO)) (v : V) (f : Gm) (ns : List Str), vs = [v] ∧ (∀ z ∈ ns, Lt 1 8 z) ∧ Sep G M H ∧ GmAt K G v f ∧ f.ok ns ∧ ∀ G' H', Same G G' → Sep G' M H' → Q (.bl true) H'
theorem ok_is_part (T : Top K mg w) {k : Nat} (G_is_number : FnOk P w K mg base CX0 (k + 1) T.a_is_number T.d_is_number ["thing", "low", "high"] spNumberIn) (G_is_name : FnOk P w K mg base CX0 (k + 1) T.a_is_name T.d_is_name ["thing"] spName) :
    FnOk P w K mg base CX0 (k + 2) T.a_is_part T.d_is_part ["part"] (spPart K) := by
  refine T.F_is_part.ok sc_is_part (fun vs H Q E h => ?_) (fun cdv A outer s H vs Q E hr h => ?_)
  · obtain ⟨G, M, v, f, ns, rfl, _⟩ := h
    rfl
  · obtain ⟨G, M, v, f, ns, rfl, lt, S, hf, ok, q⟩ := h
    refine ⟨_, (pss_cons (xs_if (PW.pt (xw_or (pt_not (xt_truK K (pe_callB (call_isK K) (by rfl) T.m_isinstance (by decide +kernel) (pa_cons (xv 0) (pa_cons (pe_bltn (v := .ty "tuple") (by rfl) T.m_tuple (by decide +kernel) rfl) pa_nil))))) (pw_or1 (xt_cmp (op_eqLK K hr.u190) (pe_callB (cr_lenK K) (by rfl) T.m_len (by decide +kernel) (pa_cons (xv 0) pa_nil)) pe_int (nomark _)))))
      (pss_one (ps_ret pe_bl))
      pss_nil)
      (pss_cons (xs_if (PW.pt (xw_or (pt_not (xt_truK K (pe_callB (call_isK K) (by rfl) T.m_isinstance (by decide +kernel) (pa_cons (pe_ix (ix_k K) (xv 0) pe_int (fun _ _ => rfl)) (pa_cons (pe_bltn (v := .ty "str") (by rfl) T.m_str (by decide +kernel) rfl) pa_nil))))) (pw_or1 (xt_cmp (op_notIn_kd ⟨T.l_COUNTS, T.q_COUNTS, T.w_COUNTS⟩) (pe_ix (ix_k K) (xv 0) pe_int (fun _ _ => rfl)) (pe_glob (v := .ref T.D_COUNTS) (by rfl) T.g_COUNTS rfl) (by rfl)))))
      (pss_one (ps_ret pe_bl))
      pss_nil)
      (pss_cons (xs_if (xt_cmp (op_neLK K hr.u190) (pe_callB (cr_lenK K) (by rfl) T.m_len (by decide +kernel) (pa_cons (xv 0) pa_nil)) (pe_ix ix_kdict (pe_glob (v := .ref T.D_COUNTS) (by rfl) T.g_COUNTS rfl) (pe_ix (ix_k K) (xv 0) pe_int (fun _ _ => rfl)) (fun _ _ => rfl)) (nomark _))
      (pss_one (ps_ret pe_bl))
      pss_nil)
      (pss_cons (xs_if (xt_cmp (op_eqLK K hr.u190) (pe_ix (ix_k K) (xv 0) pe_int (fun _ _ => rfl)) pe_str (nomark _))
      (pss_one (ps_ret (pe_call G_is_number (hr.mono (by omega)) (by rfl) T.g_is_number T.F_is_number.kp T.b_is_number .nil pass0 (pa_cons (pe_ix (ix_k K) (xv 0) pe_int (fun _ _ => rfl)) (pa_cons pe_int (pa_cons pe_int pa_nil))))))
      pss_nil)
      (pss_cons (xs_if (xt_cmp (op_eqLK K hr.u190) (pe_ix (ix_k K) (xv 0) pe_int (fun _ _ => rfl)) pe_str (nomark _))
      (pss_one (ps_ret (pe_call G_is_name (hr.mono (by omega)) (by rfl) T.g_is_name T.F_is_name.kp T.b_is_name .nil pass0 (pa_cons (pe_ix (ix_k K) (xv 0) pe_int (fun _ _ => rfl)) pa_nil))))
      pss_nil)
      (pss_one (ps_ret pe_bl))))))), ?_⟩
    have sr := Same.refl G
    cases hf with
    | is hp =>
      have h1 := S.t hp
      obtain ⟨t0, k0⟩ := T.k_COUNTS_0
      refine ⟨_, _, _, _, true, rfl, .ty _, sqT_ty (S.t hp), kit_ty (by decide +kernel), ff, fun _ => ⟨_, .inr h1, fun e => (nomatch e), fun _ => ?_⟩⟩
      refine ⟨_, _, .inr h1, rfl, _, _, _, _, true, rfl, .ty _, .base (.str _), kit_ty (by decide +kernel), ff, fun _ => ⟨_, _, .inr h1, rfl, _, _, rfl, rfl, k0, ff, fun _ => ?_⟩⟩
      refine ⟨_, .inr h1, _, _, .inr h1, rfl, _, _, .int 2, rfl, rfl, ⟨_, _, _, T.l_COUNTS, T.q_COUNTS, k0, ⟨_, rfl⟩⟩, fun e => (nomatch e), fun _ => ?_⟩
      refine ⟨_, _, .inr h1, rfl, fun _ => ⟨_, _, .inr h1, rfl, _, _, _, rfl, ok.1, ok.2, q G H sr S⟩, we⟩
    | get hp =>
      have h1 := S.t hp
      obtain ⟨t0, k0⟩ := T.k_COUNTS_1
      refine ⟨_, _, _, _, true, rfl, .ty _, sqT_ty (S.t hp), kit_ty (by decide +kernel), ff, fun _ => ⟨_, .inr h1, fun e => (nomatch e), fun _ => ?_⟩⟩
      refine ⟨_, _, .inr h1, rfl, _, _, _, _, true, rfl, .ty _, .base (.str _), kit_ty (by decide +kernel), ff, fun _ => ⟨_, _, .inr h1, rfl, _, _, rfl, rfl, k0, ff, fun _ => ?_⟩⟩
      refine ⟨_, .inr h1, _, _, .inr h1, rfl, _, _, .int 2, rfl, rfl, ⟨_, _, _, T.l_COUNTS, T.q_COUNTS, k0, ⟨_, rfl⟩⟩, fun e => (nomatch e), fun _ => ?_⟩
      refine ⟨_, _, .inr h1, rfl, fun e => wd e, fun _ => ⟨_, _, .inr h1, rfl, fun _ => ⟨_, _, .inr h1, rfl, G, M, _, rfl, S, lt _ ok, q⟩, we⟩⟩
    | sum hp h2 h3 =>
      have h1 := S.t hp
      obtain ⟨t0, k0⟩ := T.k_COUNTS_2
      refine ⟨_, _, _, _, true, rfl, .ty _, sqT_ty (S.t hp), kit_ty (by decide +kernel), ff, fun _ => ⟨_, .inr h1, fun e => (nomatch e), fun _ => ?_⟩⟩
      refine ⟨_, _, .inr h1, rfl, _, _, _, _, true, rfl, .ty _, .base (.str _), kit_ty (by decide +kernel), ff, fun _ => ⟨_, _, .inr h1, rfl, _, _, rfl, rfl, k0, ff, fun _ => ?_⟩⟩
      refine ⟨_, .inr h1, _, _, .inr h1, rfl, _, _, .int 3, rfl, rfl, ⟨_, _, _, T.l_COUNTS, T.q_COUNTS, k0, ⟨_, rfl⟩⟩, fun e => (nomatch e), fun _ => ?_⟩
      refine ⟨_, _, .inr h1, rfl, fun e => wd e, fun _ => ⟨_, _, .inr h1, rfl, fun e => wd e, fun _ => q G H sr S⟩⟩
    | same hp h2 h3 =>
      have h1 := S.t hp
      obtain ⟨t0, k0⟩ := T.k_COUNTS_3
      refine ⟨_, _, _, _, true, rfl, .ty _, sqT_ty (S.t hp), kit_ty (by decide +kernel), ff, fun _ => ⟨_, .inr h1, fun e => (nomatch e), fun _ => ?_⟩⟩
      refine ⟨_, _, .inr h1, rfl, _, _, _, _, true, rfl, .ty _, .base (.str _), kit_ty (by decide +kernel), ff, fun _ => ⟨_, _, .inr h1, rfl, _, _, rfl, rfl, k0, ff, fun _ => ?_⟩⟩
      refine ⟨_, .inr h1, _, _, .inr h1, rfl, _, _, .int 3, rfl, rfl, ⟨_, _, _, T.l_COUNTS, T.q_COUNTS, k0, ⟨_, rfl⟩⟩, fun e => (nomatch e), fun _ => ?_⟩
      refine ⟨_, _, .inr h1, rfl, fun e => wd e, fun _ => ⟨_, _, .inr h1, rfl, fun e => wd e, fun _ => q G H sr S⟩⟩
    | pick hp h2 h3 h4 =>
      have h1 := S.t hp
      obtain ⟨t0, k0⟩ := T.k_COUNTS_4
      refine ⟨_, _, _, _, true, rfl, .ty _, sqT_ty (S.t hp), kit_ty (by decide +kernel), ff, fun _ => ⟨_, .inr h1, fun e => (nomatch e), fun _ => ?_⟩⟩
      refine ⟨_, _, .inr h1, rfl, _, _, _, _, true, rfl, .ty _, .base (.str _), kit_ty (by decide +kernel), ff, fun _ => ⟨_, _, .inr h1, rfl, _, _, rfl, rfl, k0, ff, fun _ => ?_⟩⟩
      refine ⟨_, .inr h1, _, _, .inr h1, rfl, _, _, .int 4, rfl, rfl, ⟨_, _, _, T.l_COUNTS, T.q_COUNTS, k0, ⟨_, rfl⟩⟩, fun e => (nomatch e), fun _ => ?_⟩
      refine ⟨_, _, .inr h1, rfl, fun e => wd e, fun _ => ⟨_, _, .inr h1, rfl, fun e => wd e, fun _ => q G H sr S⟩⟩
/-! ### check_form -/
def Wt (K : PySem.W.Frag) (ns : List Str) (G : Hp) (v : V) (c : Gm × Int) : Prop := ∃ (t : Addr) (u : V), v = .ref t ∧ G t = some (.tup [u, .int c.2]) ∧ GmAt K G u c.1 ∧ c.1.ok ns ∧ c.2 + c.1.dep ≤ 6
theorem Wt.same {K : PySem.W.Frag} {ns : List Str} {G G' : Hp} (e : Same G G') {v : V} {c : Gm × Int} (h : Wt K ns G v c) : Wt K ns G' v c := by
  obtain ⟨t, u, h1, h2, h3, h4⟩ := h
  exact ⟨t, u, h1, e _ _ h2, h3.same' e, h4⟩
def wsz : List (Gm × Int) → Nat
  | [] => 0
  | c :: r => c.1.size + wsz r
theorem wsz_app : ∀ (a b : List (Gm × Int)), wsz (a ++ b) = wsz a + wsz b
  | [], b => by simp [wsz]
  | c :: r, b => by simp only [List.cons_append, wsz, wsz_app r b]; omega
theorem wsz_len : ∀ (a : List (Gm × Int)), a.length ≤ wsz a
  | [] => by simp
  | c :: r => by
    have h1 := wsz_len r
    have h2 := c.1.size_pos
    simp only [List.length_cons, wsz]
    omega
theorem sizes_rev : ∀ (cs : List Gm) (l : Int), wsz (cs.reverse.map fun c => (c, l)) = sizes cs
  | [], _ => rfl
  | c :: r, l => by
    rw [List.reverse_cons, List.map_append, wsz_app, sizes_rev r l]
    simp only [List.map_cons, List.map_nil, wsz, sizes]
    omega
def spCheck (K : PySem.W.Frag) : Sp := fun vs H Q _ => ∃ (G : Hp) (M : List (Addr × HO)) (v : V) (f : Gm) (ns : List Str), vs = [v] ∧ (∀ z ∈ ns, Lt 1 8 z) ∧ Sep G M H ∧ GmAt K G v f ∧ f.ok ns ∧ f.dep ≤ 5 ∧ ∀ G' H', Same G G' → Sep G' M H' → Q .non H'
theorem ok_check_form (T : Top K mg w) {k : Nat} (G_is_part : FnOk P w K mg base CX0 k T.a_is_part T.d_is_part ["part"] (spPart K)) :
    FnOk P w K mg base CX0 (k + 1) T.a_check_form T.d_check_form ["parts"] (spCheck K) := by
  refine T.F_check_form.ok sc_check_form (fun vs H Q E h => ?_) (fun cdv A outer s H vs Q E hr h => ?_)
  · obtain ⟨G, M, v, f, nl, rfl, _⟩ := h
    rfl
  · obtain ⟨G, M, v, f, nl, rfl, lt, S, hf, ok, hd, q⟩ := h
    refine ⟨_, (pss_cons (ps_set (i := 1) sc_check_form.nd rfl (.inl rfl) (pe_lst (pa_cons (pe_tup (pa_cons (xv 0) (pa_cons pe_int pa_nil))) pa_nil)))
      (pss_cons (ps_set (i := 2) sc_check_form.nd rfl (.inl rfl) pe_int)
      (pss_cons (xs_while PassesOwn.never (xt_truK K (xv 1))
      (pss_cons (ps_asg (pe_bm0 PySem.F.plainAttrs_list PySem.F.slot_list_pop PySem.F.type_list_pop mt_pop (xv 1)) (pg_tupK K 2 (pgs_cons (pg_name (i := 3) sc_check_form.nd rfl (.inl rfl)) (pgs_cons (pg_name (i := 4) sc_check_form.nd rfl (.inl rfl)) pgs_nil))))
      (pss_cons (xs_if (pt_not (xt_truK K (pe_call G_is_part (hr.mono (by omega)) (by rfl) T.g_is_part T.F_is_part.kp T.b_is_part .nil pass0 (pa_cons (xv 3) pa_nil))))
      (pss_one ps_never)
      pss_nil)
      (xss_cut (xs_if (xt_cmp op_gtY (xv 4) (xv 2) (nomark _))
      (pss_one (ps_set (i := 2) sc_check_form.nd rfl (.inl rfl) (xv 4)))
      pss_nil)
      (pss_one (xs_if (PW.pt (xw_and (xt_cmp (op_neLK K hr.u190) (pe_ix (ix_k K) (xv 3) pe_int (fun _ _ => rfl)) pe_str (nomark _)) (pw_and1 (xt_cmp (op_neLK K hr.u190) (pe_ix (ix_k K) (xv 3) pe_int (fun _ _ => rfl)) pe_str (nomark _)))))
      (pss_one (ps_for PassesOwn.never rfl (pi_range3 (by rfl) T.m_range (pa_cons (pe_op op_subY (pe_callB (cr_lenK K) (by rfl) T.m_len (by decide +kernel) (pa_cons (xv 3) pa_nil)) pe_int) (pa_cons pe_int (pa_cons (pe_un un_neg pe_int) pa_nil)))) (pg_name (i := 5) sc_check_form.nd rfl (.inl rfl))
      (pss_one (ps_expr (pe_bmK K PySem.F.plainAttrs_list PySem.F.slot_list_append PySem.F.type_list_append mt_append (xv 1) (pa_cons (pe_tup (pa_cons (pe_ix (ix_k K) (xv 3) (xv 5) (fun _ _ => rfl)) (pa_cons (pe_op op_addY (xv 4) pe_int) pa_nil))) pa_nil))))))
      pss_nil))))))
      (pss_one (xs_if (xt_cmp op_gtY (xv 2) (xe_globI (by rfl) T.v_MOST_LEVELS_forms) (nomark _))
      (pss_one ps_never)
      pss_nil))))), ?_⟩
    refine ⟨sz, fun t nt => ⟨sz, fun L nL => ?_⟩⟩
    have S1 := S.newG (o := .tup [v, .int 1]) nt
    have s1 := S.grow (o := .tup [v, .int 1]) nt
    have S2 := S1.new (o := .lst [.ref t]) nL
    refine ⟨fun m σ H' => ∃ (y3 y4 y5 : Option V) (ds : Int) (G' : Hp) (ws : List V) (cs : List (Gm × Int)), σ = [some v, some (.ref L), some (.int ds), y3, y4, y5] ∧ Same G G' ∧ Sep G' ((L, .lst ws) :: M) H' ∧ Paired (Wt K nl G') ws cs ∧ ds ≤ 5 ∧ m = wsz cs ∧ m ≤ 485,
      ⟨f.size, _, _, _, 1, _, [.ref t], [(f, 1)], rfl, s1, S2, .cons ⟨t, v, rfl, upd_same, hf.same' s1, ok, by show (1 : Int) + f.dep ≤ 6; omega⟩ .nil, by decide, by simp [wsz], Gm.size5 hd⟩, fun m σ H' h => ?_⟩
    obtain ⟨y3, y4, y5, ds, G', ws, cs, rfl, s3, S3, hw, hds, rfl, hm⟩ := h
    refine ⟨!ws.isEmpty, .inl ⟨ws, SqL.of S3.hd, rfl⟩, fun e => ?_, fun e => ?_⟩
    · rcases nil_or_snoc ws with rfl | ⟨wp, x, rfl⟩
      · exact nomatch e
      obtain ⟨cp, c, rfl, hwp, t1, u, rfl, ht1, hu, oku, du⟩ := prd_unsnoc hw
      have S4 := S3.set (o' := .lst wp)
      -- part, level = waiting.pop()
      refine ⟨.inl ⟨rfl, _, SqL.of S3.hd⟩, L, wp ++ [.ref t1], .ref t1, rfl, rfl, S3.hd, by simp, ?_⟩
      rw [List.dropLast_concat]
      refine ⟨t1, _, rfl, SqT.of (S4.st ht1), rfl, _, _, rfl, _, _, rfl, rfl, ?_⟩
      refine ⟨G', _, u, c.1, nl, rfl, lt, S4, hu, oku, fun G5 H5 s5 S5 => ⟨ff, fun _ => ?_⟩⟩
      have hwp5 : Paired (Wt K nl G5) wp cp := prd_imp (fun _ _ => Wt.same s5) hwp
      have hu5 := hu.same' s5
      have hdc := c.1.dep_pos
      have esz : wsz (cp ++ [c]) = wsz cp + c.1.size := by rw [wsz_app]; simp [wsz]
      have hcs := c.1.size_pos
      refine ⟨fun σ H6 => ∃ ds' : Int, ds' ≤ 5 ∧ σ = [some v, some (.ref L), some (.int ds'), some u, some (.int c.2), y5] ∧ H6 = H5, ⟨fun e => ⟨c.2, by omega, rfl, rfl⟩, fun e => ⟨ds, hds, rfl, rfl⟩⟩, fun σ H6 h => ?_⟩
      obtain ⟨ds', hds', rfl, rfl⟩ := h
      have stop : ∃ m', m' < wsz (cp ++ [c]) ∧ ∃ (y3 y4 y5' : Option V) (ds : Int) (G' : Hp) (ws : List V) (cs : List (Gm × Int)), ([some v, some (.ref L), some (.int ds'), some u, some (.int c.2), y5] : List (Option V)) = [some v, some (.ref L), some (.int ds), y3, y4, y5'] ∧
          Same G G' ∧ Sep G' ((L, .lst ws) :: M) H6 ∧ Paired (Wt K nl G') ws cs ∧ ds ≤ 5 ∧ m' = wsz cs ∧ m' ≤ 485 := ⟨wsz cp, by omega, _, _, _, ds', G5, wp, cp, rfl, s3.trans s5, S5, hwp5, hds', rfl, by omega⟩
      rcases hu5.kids oku with ⟨p, n, rfl, hp, _⟩ | ⟨p, n, rfl, hp, _⟩ | ⟨p, n, vs, ks, rfl, hp, hk, u1, u2, hsz, v1, v3⟩
      · have h1 := S5.t hp
        exact ⟨_, _, .inr h1, rfl, fun e => wm e, fun _ => ⟨ff, fun _ => stop⟩⟩
      · have h1 := S5.t hp
        exact ⟨_, _, .inr h1, rfl, fun _ => ⟨_, _, .inr h1, rfl, fun e => wm e, fun _ => stop⟩, fun e => wn e⟩
      · have h1 := S5.t hp
        refine ⟨_, .str n, .inr h1, at0, fun _ => ⟨_, .str n, .inr h1, at0, fun _ => ?_, fun e => wn e u2⟩, fun e => wn e u1⟩
        refine ⟨_, .inr h1, 1, rfl, (vs.length : Int), 0, -1, vs.length, ?_, ?_, for_rangeC (lo := (vs.length : Int)) (c := -1) (n := vs.length) (fun i σ H' => ∃ (y5 : Option V) (G' : Hp) (ns : List V) (ms : List (Gm × Int)), σ = [some v, some (.ref L), some (.int ds'), some (.ref p), some (.int c.2), y5] ∧
          Same G5 G' ∧ Sep G' ((L, .lst (wp ++ ns)) :: M) H' ∧ Paired (Wt K nl G') ns ms ∧ ms = (ks.reverse.map fun k => (k, c.2 + 1)).take i) ?_ (fun i σ H' hi h => ?_) (fun σ H' h => ?_)⟩
        · have e1 : (((V.str n :: vs).length : Nat) : Int) - 1 = vs.length := by rw [List.length_cons]; omega
          show [V.int ((((V.str n :: vs).length : Nat) : Int) - 1), V.int 0, V.int (-1)] = _
          rw [e1]
        · have z := RgC.neg (i := (vs.length : Int)) (j := 0) (by omega) (by omega) (by omega) (by omega)
          have e1 : ((vs.length : Int) - 0).toNat = vs.length := by omega
          rw [e1] at z
          exact z
        · exact ⟨_, G5, [], [], rfl, Same.refl _, by rw [List.append_nil]; exact S5, .nil, rfl⟩
        · obtain ⟨y5, G6, ns, ms, rfl, s6, S6, hn, rfl⟩ := h
          have hkl := prd_len hk
          have hj : vs.length - 1 - i < vs.length := by omega
          have hx : vs[vs.length - 1 - i]? = some vs[vs.length - 1 - i] := List.getElem?_eq_getElem hj
          obtain ⟨kc, hkc, hkk⟩ := prd_get hk hx
          have hat : atI (V.str n :: vs) ((vs.length : Int) + (i : Nat) * (-1)) = some vs[vs.length - 1 - i] := by
            have e1 : (vs.length : Int) + (i : Nat) * (-1) = ((vs.length - i : Nat) : Int) := by omega
            rw [e1]
            refine atI_nat ?_
            have e2 : vs.length - i = (vs.length - 1 - i) + 1 := by omega
            rw [e2, List.getElem?_cons_succ]
            exact hx
          have hnl := prd_len hn
          have hml : ((ks.reverse.map fun k => (k, c.2 + 1)).take i).length ≤ 3 := by
            rw [List.length_take]
            omega
          have hwl := prd_len hwp5
          have hcl := wsz_len cp
          refine ⟨.inl ⟨rfl, _, SqL.of S6.hd⟩, _, _, .inr (S6.t (same_t s6 hp)), hat, sz, fun d nd => ?_⟩
          have S7 := S6.newG (o := .tup [vs[vs.length - 1 - i], .int (c.2 + 1)]) nd
          have s7 := S6.grow (o := .tup [vs[vs.length - 1 - i], .int (c.2 + 1)]) nd
          refine ⟨L, _, _, rfl, rfl, S7.hd, ?_, ?_⟩
          · rw [List.length_append]
            exact smallL (by omega)
          · refine ⟨_, _, ns ++ [.ref d], _, rfl, s6.trans s7, by rw [← List.append_assoc]; exact S7.set, (prd_imp (fun _ _ => Wt.same s7) hn).snoc (b := (kc, c.2 + 1)) ⟨d, _, rfl, upd_same, (hkk.1.same' s6).same' s7, hkk.2.1, ?_⟩, ?_⟩
            · have z := hkk.2.2
              show c.2 + 1 + kc.dep ≤ 6
              omega
            · refine (XL.take_snoc ?_).symm
              rw [List.getElem?_map, List.getElem?_reverse (by omega)]
              have e3 : ks.length - 1 - i = vs.length - 1 - i := by omega
              rw [e3, hkc]
              rfl
        · obtain ⟨y5, G6, ns, ms, rfl, s6, S6, hn, rfl⟩ := h
          have hkl := prd_len hk
          have e1 : (ks.reverse.map fun k => (k, c.2 + 1)).take vs.length = ks.reverse.map fun k => (k, c.2 + 1) := List.take_of_length_le (by simp; omega)
          rw [e1] at hn
          have e2 : wsz (cp ++ ks.reverse.map fun k => (k, c.2 + 1)) = wsz cp + sizes ks := by rw [wsz_app, sizes_rev]
          exact ⟨wsz (cp ++ ks.reverse.map fun k => (k, c.2 + 1)), by omega, _, _, _, ds', G6, _, _, rfl, (s3.trans s5).trans s6, S6, prd_app (prd_imp (fun _ _ => Wt.same s6) hwp5) hn, hds', rfl, by omega⟩
    · refine ⟨fun e => ?_, fun e => ?_⟩
      · have z : (5 : Int) < ds := of_decide_eq_true e
        omega
      · exact q _ _ (s3.trans S3.frzS) S3.frz

end
end K57
set_option Elab.async false
set_option linter.all false
set_option maxRecDepth 100000
set_option maxHeartbeats 4000000
namespace K57
open PySem PySem.Spec PyProof.Rows L2 XL
section
variable {P : Program} {w : World} {K : PySem.W.Frag} {mg : Str → Option Value} {base : Heap}
/-! ### the names in a form by names -/
def addN (a b : List Str) : List Str := a ++ b.filter fun x => !decide (x ∈ a)
theorem addN_nil (b : List Str) : addN [] b = b := by
  unfold addN
  rw [List.nil_append, List.filter_eq_self]
  intro x _
  simp
theorem addN_nd {a b : List Str} (ha : a.Nodup) (hb : b.Nodup) : (addN a b).Nodup := by
  unfold addN
  rw [List.nodup_append]
  refine ⟨ha, hb.filter _, fun x hx y hy e => ?_⟩
  subst e
  have := (List.mem_filter.mp hy).2
  simp [hx] at this
theorem addN_mem {a b : List Str} {x : Str} (h : x ∈ addN a b) : x ∈ a ∨ x ∈ b := (List.mem_append.mp h).imp id fun h => (List.mem_filter.mp h).1
def Gm.nms : Gm → List Str
  | .is _ => []
  | .get x => [x]
  | .sum a b => addN (addN [] a.nms) b.nms
  | .same a b => addN (addN [] a.nms) b.nms
  | .pick a b c => addN (addN (addN [] a.nms) b.nms) c.nms
theorem Gm.nms_nd : ∀ f : Gm, f.nms.Nodup
  | .is _ => List.nodup_nil
  | .get x => by simp [Gm.nms]
  | .sum a b => addN_nd (addN_nd List.nodup_nil a.nms_nd) b.nms_nd
  | .same a b => addN_nd (addN_nd List.nodup_nil a.nms_nd) b.nms_nd
  | .pick a b c => addN_nd (addN_nd (addN_nd List.nodup_nil a.nms_nd) b.nms_nd) c.nms_nd
theorem Gm.nms_ok {ns : List Str} : ∀ {f : Gm}, f.ok ns → ∀ x ∈ f.nms, x ∈ ns
  | .is _, _, x, h => nomatch h
  | .get y, ok, x, h => by rw [List.mem_singleton.mp h]; exact ok
  | .sum a b, ok, x, h => by
    rcases addN_mem h with h | h
    · rw [addN_nil] at h
      exact Gm.nms_ok ok.1 x h
    · exact Gm.nms_ok ok.2 x h
  | .same a b, ok, x, h => by
    rcases addN_mem h with h | h
    · rw [addN_nil] at h
      exact Gm.nms_ok ok.1 x h
    · exact Gm.nms_ok ok.2 x h
  | .pick a b c, ok, x, h => by
    rcases addN_mem h with h | h
    · rcases addN_mem h with h | h
      · rw [addN_nil] at h
        exact Gm.nms_ok ok.1 x h
      · exact Gm.nms_ok ok.2.1 x h
    · exact Gm.nms_ok ok.2.2 x h
def Gm.kids : Gm → List Gm
  | .is _ => []
  | .get _ => []
  | .sum a b => [a, b]
  | .same a b => [a, b]
  | .pick a b c => [a, b, c]
def nmF (l : List (List Str)) : List Str := l.foldl addN []
theorem nmF_snoc (l : List (List Str)) (b : List Str) : nmF (l ++ [b]) = addN (nmF l) b := by
  unfold nmF
  rw [List.foldl_append]
  rfl
theorem nmF_nd : ∀ {l : List Gm}, (nmF (l.map Gm.nms)).Nodup := fun {l} => by
  have : ∀ (l : List Gm) (a : List Str), a.Nodup → ((l.map Gm.nms).foldl addN a).Nodup := fun l => by
    induction l with
    | nil => intro a h; exact h
    | cons x r ih => intro a h; exact ih _ (addN_nd h x.nms_nd)
  exact this l [] List.nodup_nil
theorem Gm.nms_kids {f : Gm} (h : f.kids ≠ []) : f.nms = nmF (f.kids.map Gm.nms) := by
  cases f with
  | is n => exact absurd rfl h
  | get x => exact absurd rfl h
  | sum a b => rfl
  | same a b => rfl
  | pick a b c => rfl
theorem GmAt.node {K : PySem.W.Frag} {G : Hp} {v : V} {f : Gm} (h : GmAt K G v f) : (∃ p n, v = .ref p ∧ SqT K G p [.str "is", .int n] ∧ f = .is n) ∨ (∃ p x, v = .ref p ∧ SqT K G p [.str "get", .str x] ∧ f = .get x) ∨
    ∃ (p : Addr) (u : Str) (vs : List V), v = .ref p ∧ SqT K G p (.str u :: vs) ∧ Paired (GmAt K G) vs f.kids ∧ u ≠ "is" ∧ u ≠ "get" ∧ f.kids ≠ [] ∧ f.kids.length ≤ 3 ∧ ∀ c ∈ f.kids, c.dep < f.dep := by
  cases h with
  | is h => exact .inl ⟨_, _, rfl, h, rfl⟩
  | get h => exact .inr (.inl ⟨_, _, rfl, h, rfl⟩)
  | sum h h1 h2 =>
    refine .inr (.inr ⟨_, _, _, rfl, h, .cons h1 (.cons h2 .nil), by decide +kernel, by decide +kernel, by simp [Gm.kids], by simp [Gm.kids], fun c hc => ?_⟩)
    simp only [Gm.kids, List.mem_cons, List.not_mem_nil, or_false] at hc
    rcases hc with rfl | rfl <;> simp only [Gm.dep] <;> omega
  | same h h1 h2 =>
    refine .inr (.inr ⟨_, _, _, rfl, h, .cons h1 (.cons h2 .nil), by decide +kernel, by decide +kernel, by simp [Gm.kids], by simp [Gm.kids], fun c hc => ?_⟩)
    simp only [Gm.kids, List.mem_cons, List.not_mem_nil, or_false] at hc
    rcases hc with rfl | rfl <;> simp only [Gm.dep] <;> omega
  | pick h h1 h2 h3 =>
    refine .inr (.inr ⟨_, _, _, rfl, h, .cons h1 (.cons h2 (.cons h3 .nil)), by decide +kernel, by decide +kernel, by simp [Gm.kids], by simp [Gm.kids], fun c hc => ?_⟩)
    simp only [Gm.kids, List.mem_cons, List.not_mem_nil, or_false] at hc
    rcases hc with rfl | rfl | rfl <;> simp only [Gm.dep] <;> omega
theorem Gm.kids_ok {ns : List Str} {f : Gm} (h : f.ok ns) : ∀ c ∈ f.kids, c.ok ns := fun c hc => by
  cases f with
  | is n => exact nomatch hc
  | get x => exact nomatch hc
  | sum a b =>
    simp only [Gm.kids, List.mem_cons, List.not_mem_nil, or_false] at hc
    rcases hc with rfl | rfl
    · exact h.1
    · exact h.2
  | same a b =>
    simp only [Gm.kids, List.mem_cons, List.not_mem_nil, or_false] at hc
    rcases hc with rfl | rfl
    · exact h.1
    · exact h.2
  | pick a b c =>
    simp only [Gm.kids, List.mem_cons, List.not_mem_nil, or_false] at hc
    rcases hc with rfl | rfl | rfl
    · exact h.1
    · exact h.2.1
    · exact h.2.2
theorem nodup_sub {l : List Str} {ns : List Str} (nd : l.Nodup) (h : ∀ x ∈ l, x ∈ ns) : l.length ≤ ns.length := by
  induction l generalizing ns with
  | nil => simp
  | cons x r ih =>
    rw [List.nodup_cons] at nd
    have hx := h x List.mem_cons_self
    have := ih (ns := ns.erase x) nd.2 fun y hy => (List.mem_erase_of_ne (fun e => nd.1 (by rw [← e]; exact hy))).mpr (h y (List.mem_cons_of_mem _ hy))
    rw [List.length_erase_of_mem hx] at this
    have h0 := List.length_pos_of_mem hx
    rw [List.length_cons]
    omega
theorem cutT1 (x : V) (vs : List V) : cutV (x :: vs) (some 1) none = vs := by
  unfold cutV
  rw [show HT.sIx (x :: vs).length 0 (some 1) = min 1 (x :: vs).length from HT.sIx_nat _ 0 1, HT.sIx_none]
  rw [show min 1 (x :: vs).length = 1 by rw [List.length_cons]; omega]
  show (List.take ((x :: vs).length - 1) vs) = vs
  rw [List.length_cons, Nat.add_sub_cancel, List.take_length]
theorem inS {x : Str} (xs : List Str) : inV (.str x) (xs.map V.str) = decide (x ∈ xs) := by
  unfold inV
  induction xs with
  | nil => rfl
  | cons y r ih =>
    rw [List.map_cons, List.any_cons, ih]
    show ((y == x) || decide (x ∈ r)) = decide (x ∈ y :: r)
    by_cases e : x = y
    · subst e; simp
    · have e2 : ¬ y = x := fun q => e q.symm
      simp [e, e2]
theorem flS (xs : List Str) : (xs.map V.str).all flatV = true := by
  rw [List.all_eq_true]
  intro x hx
  obtain ⟨n, _, rfl⟩ := List.mem_map.mp hx
  rfl
def spNamesG (K : PySem.W.Frag) (d : Nat) : Sp := fun vs H Q _ => ∃ (G : Hp) (M : List (Addr × HO)) (v : V) (f : Gm) (ns : List Str), vs = [v] ∧ Sep G M H ∧ GmAt K G v f ∧ f.ok ns ∧ ns.length ≤ 100 ∧ f.dep ≤ d ∧
  ∀ (p : Addr) (G' H' : Hp), Same G G' → Sep G' M H' → G' p = some (.tup (f.nms.map V.str)) → Q (.ref p) H'
theorem ok_names_ofG (T : Top K mg w) : ∀ d : Nat, FnOk P w K mg base CX0 (d + 1) T.a_names_of T.d_names_of ["parts"] (spNamesG K d)
  | 0 => fn_false fun vs H Q E h => by
    obtain ⟨G, M, v, f, ns, _, _, _, _, _, hd, _⟩ := h
    have := f.dep_pos
    omega
  | d + 1 => by
    have G_names_of := ok_names_ofG T d
    refine T.F_names_of.ok sc_names_of (fun vs H Q E h => ?_) (fun cdv A outer s H vs Q E hr h => ?_)
    · obtain ⟨G, M, v, f, ns, rfl, _⟩ := h
      rfl
    · obtain ⟨G, M, v, f, ns, rfl, S, hf, ok, nsl, hd, q⟩ := h
      refine ⟨_, (pss_cons (xs_if (xt_cmp (op_eqLK K hr.u190) (pe_ix (ix_k K) (xv 0) pe_int (fun _ _ => rfl)) pe_str (nomark _))
      (pss_one (ps_ret (pe_tup pa_nil)))
      pss_nil)
      (pss_cons (xs_if (xt_cmp (op_eqLK K hr.u190) (pe_ix (ix_k K) (xv 0) pe_int (fun _ _ => rfl)) pe_str (nomark _))
      (pss_one (ps_ret (pe_tup (pa_cons (pe_ix (ix_k K) (xv 0) pe_int (fun _ _ => rfl)) pa_nil))))
      pss_nil)
      (pss_cons (ps_set (i := 1) sc_names_of.nd rfl (.inl rfl) (pe_lst pa_nil))
      (pss_cons (ps_for PassesOwn.never rfl (pi_tupK K (pe_slice sl_tup (xv 0) (po_some pe_int) po_none)) (pg_name (i := 2) sc_names_of.nd rfl (.inl rfl))
      (pss_one (ps_for PassesOwn.never rfl (pi_tupK K (pe_call G_names_of (hr.mono (by omega)) (by rfl) T.g_names_of T.F_names_of.kp T.b_names_of .nil pass0 (pa_cons (xv 2) pa_nil))) (pg_name (i := 3) sc_names_of.nd rfl (.inl rfl))
      (pss_one (xs_if (xt_cmp (notin_seqK K) (xv 3) (xv 1) (by rfl))
      (pss_one (ps_expr (pe_bmK K PySem.F.plainAttrs_list PySem.F.slot_list_append PySem.F.type_list_append mt_append (xv 1) (pa_cons (xv 3) pa_nil))))
      pss_nil)))))
      (pss_one (ps_ret (pe_callTy (call_tupleK K) (by rfl) T.m_tuple (by decide +kernel) (pa_cons (xv 1) pa_nil)))))))), ?_⟩
      rcases hf.node with ⟨p, n, rfl, hp, rfl⟩ | ⟨p, x, rfl, hp, rfl⟩ | ⟨p, u, vs, rfl, hp, hk, u1, u2, kne, kl, kd⟩
      · have h1 := S.t hp
        exact ⟨_, _, .inr h1, rfl, fun _ => ⟨sz, fun t nt => q t _ _ (S.grow nt) (S.newG nt) upd_same⟩, we⟩
      · have h1 := S.t hp
        exact ⟨_, _, .inr h1, rfl, fun e => wd e, fun _ => ⟨_, _, .inr h1, rfl, fun _ => ⟨_, _, .inr h1, rfl, sz, fun t nt => q t _ _ (S.grow nt) (S.newG nt) upd_same⟩, we⟩⟩
      · have h1 := S.t hp
        have at0 : atI (V.str u :: vs) 0 = some (.str u) := atI_nat (j := 0) rfl
        refine ⟨_, .str u, .inr h1, at0, fun e => absurd (of_decide_eq_true e) u1, fun _ => ⟨_, .str u, .inr h1, at0, fun e => absurd (of_decide_eq_true e) u2, fun _ => ?_⟩⟩
        refine ⟨sz, fun L nL => ?_⟩
        have S1 := S.new (o := .lst []) nL
        refine ⟨1, rfl, p, _, rfl, S1.t hp, ?_, fun t nt => ?_⟩
        · rintro ⟨z, _⟩
          rw [show HT.sIx (V.str u :: vs).length 0 (some 1) = min 1 (V.str u :: vs).length from HT.sIx_nat _ 0 1, List.length_cons] at z
          omega
        · rw [cutT1] at *
          have S2 := S1.newG (o := .tup vs) nt
          have s2 := S1.grow (o := .tup vs) nt
          have kvl := prd_len hk
          refine ⟨t, rfl, ⟨vs, SqT.of (S2.st upd_same)⟩, for_tup (xs := vs) (fun i σ H' => ∃ (y2 y3 : Option V) (G' : Hp), σ = [some (.ref p), some (.ref L), y2, y3] ∧ Same (upd G t (.tup vs)) G' ∧ Sep G' ((L, .lst ((nmF ((f.kids.take i).map Gm.nms)).map V.str)) :: M) H')
            ⟨_, _, _, rfl, Same.refl _, S2⟩ (fun i σ H' _ h => ?_) (fun i x σ H' hx h => ?_) (fun σ H' h => ?_)⟩
          · obtain ⟨_, _, G', _, s3, S3⟩ := h
            exact SqT.of (S3.st (s3 _ _ upd_same))
          · obtain ⟨y2, y3, G', rfl, s3, S3⟩ := h
            obtain ⟨c, hc', hc⟩ := prd_get hk hx
            have cm := List.mem_of_getElem? hc'
            have okc := Gm.kids_ok ok c cm
            have dc := kd c cm
            refine ⟨G', _, _, c, ns, rfl, S3, (hc.same' s2).same' s3, okc, nsl, by omega, fun r G2 H2 s4 S4 hr => ?_⟩
            generalize hfo : nmF ((f.kids.take i).map Gm.nms) = fo at S4
            have fnd : fo.Nodup := by rw [← hfo]; exact nmF_nd
            have fin : ∀ x ∈ fo, x ∈ ns := fun x hx => by
              have : ∀ (l : List Gm) (a : List Str), (∀ c ∈ l, c.ok ns) → (∀ x ∈ a, x ∈ ns) → ∀ x ∈ (l.map Gm.nms).foldl addN a, x ∈ ns := fun l => by
                induction l with
                | nil => intro a _ h; exact h
                | cons c r ih =>
                  intro a h1 h2
                  refine ih _ (fun c hc => h1 c (List.mem_cons_of_mem _ hc)) fun x hx => ?_
                  rcases addN_mem hx with h | h
                  · exact h2 x h
                  · exact Gm.nms_ok (h1 c List.mem_cons_self) x h
              refine this (f.kids.take i) [] (fun c hc => Gm.kids_ok ok c (List.mem_of_mem_take hc)) (fun _ h => nomatch h) x ?_
              rw [← hfo] at hx
              exact hx
            have nnd := c.nms_nd
            refine ⟨r, rfl, ⟨_, SqT.of (S4.st hr)⟩, for_tup (xs := c.nms.map V.str) (fun j σ H' => ∃ (y3 : Option V), σ = [some (.ref p), some (.ref L), some x, y3] ∧ Sep G2 ((L, .lst ((fo ++ (c.nms.take j).filter fun x => !decide (x ∈ fo)).map V.str)) :: M) H')
              ⟨_, rfl, by simpa using S4⟩ (fun j σ H' _ h => ?_) (fun j y σ H' hy h => ?_) (fun σ H' h => ?_)⟩
            · obtain ⟨_, _, S5⟩ := h
              exact SqT.of (S5.st hr)
            · obtain ⟨y3, rfl, S5⟩ := h
              rw [List.getElem?_map] at hy
              obtain ⟨z, hz, rfl⟩ := Option.map_eq_some_iff.mp hy
              have znt : z ∉ c.nms.take j := fun hm => by
                have nd := nnd
                rw [(take_pre hz).1, List.nodup_append] at nd
                exact nd.2.2 z hm z List.mem_cons_self rfl
              have lenb : (fo ++ (c.nms.take j).filter fun x => !decide (x ∈ fo)).length ≤ 200 := by
                have h1 := nodup_sub fnd fin
                have h2 := nodup_sub nnd (Gm.nms_ok okc)
                have h3 := List.length_filter_le (fun x => !decide (x ∈ fo)) (c.nms.take j)
                rw [List.length_take] at h3
                rw [List.length_append]
                omega
              have mem : z ∈ fo ++ (c.nms.take j).filter (fun x => !decide (x ∈ fo)) ↔ z ∈ fo := by
                rw [List.mem_append]
                exact ⟨fun h => h.elim id fun h => absurd (List.mem_filter.mp h).1 znt, .inl⟩
              refine ⟨L, _, rfl, .inl (SqL.of S5.hd), rfl, flS _, ?_⟩
              rw [inS]
              refine ⟨fun e => ?_, fun e => ?_⟩
              · have hn : z ∉ fo := fun h => by
                  rw [decide_eq_true (mem.mpr h)] at e
                  exact nomatch e
                refine ⟨.inl ⟨rfl, _, SqL.of S5.hd⟩, L, _, _, rfl, rfl, S5.hd, by rw [List.length_map]; exact smallL (by omega), ?_⟩
                refine ⟨_, rfl, ?_⟩
                rw [take_snoc hz, List.filter_append, show ([z].filter fun x => !decide (x ∈ fo)) = [z] by simp [hn], ← List.append_assoc, List.map_append (l₂ := [z])]
                exact S5.set
              · have hn : z ∈ fo := mem.mp (Decidable.of_not_not fun h => by
                  rw [decide_eq_false h] at e
                  exact nomatch e)
                refine ⟨_, rfl, ?_⟩
                rw [take_snoc hz, List.filter_append, show ([z].filter fun x => !decide (x ∈ fo)) = [] by simp [hn], List.append_nil]
                exact S5
            · obtain ⟨y3, rfl, S5⟩ := h
              rw [List.length_map, List.take_length] at S5
              refine ⟨_, _, G2, rfl, s3.trans s4, ?_⟩
              rw [take_snoc hc', List.map_append, show nmF ((f.kids.take i).map Gm.nms ++ [c].map Gm.nms) = addN fo c.nms by rw [← hfo]; exact nmF_snoc _ _]
              exact S5
          · obtain ⟨y2, y3, G', rfl, s3, S3⟩ := h
            rw [kvl, List.take_length, ← Gm.nms_kids kne] at S3
            refine ⟨L, _, rfl, .inl ⟨SqL.of S3.hd, fun t2 nt2 => ?_⟩⟩
            obtain ⟨G4, s4, S4, ht2⟩ := Sep.mk (o := .tup (f.nms.map V.str)) S3 nt2
            exact q t2 G4 _ (s2.trans (s3.trans s4)) S4.drop ht2

end
end K57
set_option Elab.async false
set_option linter.all false
set_option maxRecDepth 100000
set_option maxHeartbeats 4000000
namespace K57
open PySem PySem.Spec PyProof.Rows L2 XL
/-! ### shapes -/
inductive Sh where
  | text (f : PyData)
  | button (w : PyData)
  | put (c : PyData) (fs : List PyData)
  | each (t m k c : PyData) (fs : List PyData)
  | line (col : Bool) (ps : List Sh)
  | wen (f : PyData) (a b : Sh)
def lword (c : Bool) : Str := if c then "col" else "row"
mutual
def toD : Sh → PyData
  | .text f => .tuple [.str "text", f]
  | .button w => .tuple [.str "button", w]
  | .put c fs => .tuple [.str "put", c, .tuple fs]
  | .each t m k c fs => .tuple [.str "each", t, m, k, c, .tuple fs]
  | .line col ps => .tuple [.str (lword col), .tuple (toDs ps)]
  | .wen f a b => .tuple [.str "when", f, toD a, toD b]
def toDs : List Sh → List PyData
  | [] => []
  | s :: r => toD s :: toDs r
end
theorem toDs_eq : ∀ ps, toDs ps = ps.map toD
  | [] => by simp only [toDs, List.map_nil]
  | s :: r => by simp only [toDs, List.map_cons, toDs_eq r]
def parts : Sh → List Sh
  | .line _ ps => ps
  | .wen _ a b => [a, b]
  | _ => []
mutual
def numb : Sh → List Sh
  | .text f => [.text f]
  | .button w => [.button w]
  | .put c fs => [.put c fs]
  | .each t m k c fs => [.each t m k c fs]
  | .line c ps => .line c ps :: numbs ps
  | .wen f a b => .wen f a b :: (numb a ++ numb b)
def numbs : List Sh → List Sh
  | [] => []
  | s :: r => numb s ++ numbs r
end
theorem numb_eq (s : Sh) : numb s = s :: numbs (parts s) := by
  cases s <;> simp only [numb, parts, numbs, List.append_nil]
theorem numbs_app : ∀ xs ys, numbs (xs ++ ys) = numbs xs ++ numbs ys
  | [], ys => by simp only [List.nil_append, numbs]
  | x :: xs, ys => by simp only [List.cons_append, numbs, numbs_app xs ys, List.append_assoc]
theorem numbs_one (p : Sh) : numbs [p] = numb p := by simp only [numbs, List.append_nil]
theorem mem_numbs {x : Sh} : ∀ {ps : List Sh}, x ∈ numbs ps ↔ ∃ p ∈ ps, x ∈ numb p
  | [] => by simp [numbs]
  | p :: r => by simp [numbs, mem_numbs (ps := r)]
mutual
def hgt : Sh → Nat
  | .text _ => 1
  | .button _ => 1
  | .put _ _ => 1
  | .each _ _ _ _ _ => 1
  | .line _ ps => hgts ps + 1
  | .wen _ a b => max (hgt a) (hgt b) + 1
def hgts : List Sh → Nat
  | [] => 0
  | s :: r => max (hgt s) (hgts r)
end
theorem hgt_eq (s : Sh) : hgt s = hgts (parts s) + 1 := by
  cases s <;> simp only [hgt, parts, hgts, Nat.max_zero]
theorem hgts_app : ∀ xs ys, hgts (xs ++ ys) = max (hgts xs) (hgts ys)
  | [], ys => by simp only [List.nil_append, hgts]; omega
  | x :: xs, ys => by simp only [List.cons_append, hgts, hgts_app xs ys]; omega
theorem hgts_one (p : Sh) : hgts [p] = hgt p := by simp only [hgts]; omega
theorem hgt_mem {p : Sh} : ∀ {ps : List Sh}, p ∈ ps → hgt p ≤ hgts ps
  | q :: r, h => by
    rcases List.mem_cons.mp h with rfl | h
    · simp only [hgts]; omega
    · have := hgt_mem h
      simp only [hgts]; omega
theorem hgts_le {n : Nat} : ∀ {ps : List Sh}, (∀ p ∈ ps, hgt p ≤ n) → hgts ps ≤ n
  | [], _ => by simp only [hgts]; omega
  | p :: r, h => by
    have h1 := h p (by simp)
    have h2 := hgts_le (ps := r) fun q hq => h q (List.mem_cons_of_mem _ hq)
    simp only [hgts]; omega
theorem hgt_part {p s : Sh} (h : p ∈ parts s) : hgt p + 1 ≤ hgt s := by
  have := hgt_mem h
  rw [hgt_eq s]
  omega
def cnt (s : Sh) : Nat := (numb s).length
theorem cnt_eq (s : Sh) : cnt s = (numbs (parts s)).length + 1 := by
  unfold cnt
  rw [numb_eq, List.length_cons]
theorem cnt_mem {p : Sh} : ∀ {ps : List Sh}, p ∈ ps → cnt p ≤ (numbs ps).length
  | q :: r, h => by
    simp only [numbs, List.length_append]
    rcases List.mem_cons.mp h with rfl | h
    · unfold cnt; omega
    · have := cnt_mem h
      omega
theorem many_le : ∀ ps : List Sh, ps.length ≤ (numbs ps).length
  | [] => by simp
  | p :: r => by
    have := many_le r
    have := cnt_eq p
    unfold cnt at this
    simp only [numbs, List.length_append, List.length_cons]
    omega
/-- behind the number of a shape stand its own shapes -/
theorem drop_numb : ∀ n s, hgt s ≤ n → ∀ i p, (numb s)[i]? = some p → ∃ r, (numb s).drop i = numb p ++ r
  | 0, s, h, _, _, _ => by rw [hgt_eq] at h; omega
  | n + 1, s, h, 0, p, e => by
    rw [numb_eq s] at e
    obtain rfl : s = p := by simpa using e
    exact ⟨[], by simp⟩
  | n + 1, s, h, i + 1, p, e => by
    have ih := drop_numb n
    have go : ∀ (ps : List Sh), (∀ q ∈ ps, hgt q ≤ n) → ∀ j, (numbs ps)[j]? = some p → ∃ r, (numbs ps).drop j = numb p ++ r := by
      intro ps
      induction ps with
      | nil => intro _ j e; simp [numbs] at e
      | cons q qs ih2 =>
        intro hq j e
        simp only [numbs] at e ⊢
        by_cases hj : j < (numb q).length
        · rw [List.getElem?_append_left hj] at e
          obtain ⟨r, hr⟩ := ih q (hq q (by simp)) j p e
          exact ⟨r ++ numbs qs, by rw [List.drop_append_of_le_length (by omega), hr, List.append_assoc]⟩
        · rw [List.getElem?_append_right (by omega)] at e
          obtain ⟨r, hr⟩ := ih2 (fun x hx => hq x (List.mem_cons_of_mem _ hx)) _ e
          refine ⟨r, ?_⟩
          rw [List.drop_append, List.drop_of_length_le (by omega), List.nil_append]
          exact hr
    rw [numb_eq s] at e ⊢
    rw [List.getElem?_cons_succ] at e
    rw [List.drop_succ_cons]
    exact go _ (fun q hq => by have := hgt_part hq; omega) i e
theorem numb_mem_sub {p : Sh} : ∀ n s, hgt s ≤ n → p ∈ numb s → hgt p ≤ hgt s ∧ cnt p ≤ cnt s ∧ ∀ x ∈ numb p, x ∈ numb s
  | 0, s, h, _ => by rw [hgt_eq] at h; omega
  | n + 1, s, h, hp => by
    rw [numb_eq s] at hp
    rcases List.mem_cons.mp hp with rfl | hp
    · exact ⟨Nat.le_refl _, Nat.le_refl _, fun _ h => h⟩
    · obtain ⟨q, hq, hp⟩ := mem_numbs.mp hp
      have h1 := hgt_part hq
      obtain ⟨a1, a2, a3⟩ := numb_mem_sub n q (by omega) hp
      have h2 := cnt_mem hq
      have h3 := cnt_eq s
      refine ⟨by omega, by omega, fun x hx => ?_⟩
      rw [numb_eq s]
      exact List.mem_cons_of_mem _ (mem_numbs.mpr ⟨q, hq, a3 x hx⟩)
def Loc : Sh → Prop
  | .text f => Fit 1024 3 f
  | .button w => Fit 8 0 w
  | .put c fs => Fit 8 0 c ∧ fs.length ≤ 3 ∧ ∀ f ∈ fs, Fit 256 2 f
  | .each t m k c fs => Fit 256 2 t ∧ Fit 104 2 m ∧ Fit 256 2 k ∧ Fit 8 0 c ∧ fs.length ≤ 3 ∧ ∀ f ∈ fs, Fit 256 2 f
  | .line _ ps => ps.length ≤ 8 ∨ ps.length = 11
  | .wen f _ _ => Fit 1024 3 f
def SOk (s : Sh) : Prop := ∀ p ∈ numb s, Loc p
theorem SOk.loc {s : Sh} (h : SOk s) : Loc s := h s (by rw [numb_eq]; simp)
theorem SOk.part {s p : Sh} (h : SOk s) (hp : p ∈ parts s) : SOk p := fun x hx => h x (by rw [numb_eq s]; exact List.mem_cons_of_mem _ (mem_numbs.mpr ⟨p, hp, hx⟩))
theorem SOk.mk {s : Sh} (h : Loc s) (hp : ∀ p ∈ parts s, SOk p) : SOk s := fun x hx => by
  rw [numb_eq s] at hx
  rcases List.mem_cons.mp hx with rfl | hx
  · exact h
  · obtain ⟨p, h1, h2⟩ := mem_numbs.mp hx
    exact hp p h1 x h2
theorem SOk.sub {s p : Sh} (h : SOk s) (hp : p ∈ numb s) : SOk p := fun x hx => h x ((numb_mem_sub _ s (Nat.le_refl _) hp).2.2 x hx)
theorem fit_word (z : Str) (n : Nat) (h : ∀ c ∈ z.cps.toList, c < 1114112) (l : z.length ≤ n) : Fit n 0 (.str z) := .str h l
theorem fit_forms {fs : List PyData} (h : fs.length ≤ 3) (hf : ∀ f ∈ fs, Fit 256 2 f) : Fit 771 3 (.tuple fs) := (Fit.tups hf).mono (by have := Nat.mul_le_mul_right (256 + 1) h; omega) (by decide)
theorem fits_w {ps : List Sh} (h : ∀ p ∈ ps, (toD p).weight + 10 ≤ 2000 * cnt p) : PyData.weightAll (ps.map toD) ≤ 2000 * (numbs ps).length := by
  induction ps with
  | nil => simp only [List.map_nil, PyData.weightAll]; omega
  | cons p r ih =>
    have h1 := h p (by simp)
    have h2 := ih fun q hq => h q (List.mem_cons_of_mem _ hq)
    have h3 : (numb p).length = cnt p := rfl
    simp only [List.map_cons, PyData.weightAll, numbs, List.length_append, h3, Nat.mul_add]
    omega
theorem fit_sh : ∀ n s, hgt s ≤ n → SOk s → Fit (2000 * cnt s - 10) (2 * hgt s + 3) (toD s) ∧ (toD s).weight + 10 ≤ 2000 * cnt s
  | 0, s, h, _ => by rw [hgt_eq] at h; omega
  | n + 1, s, h, ok => by
    have ih := fun p (hp : p ∈ parts s) => fit_sh n p (by have := hgt_part hp; omega) (ok.part hp)
    have c1 := cnt_eq s
    have h1 := hgt_eq s
    have main : Fit (2000 * cnt s - 10) (2 * hgt s + 3) (toD s) := by
      have lc := ok.loc
      have w4 : ∀ z : Str, z ∈ ([("text" : Str), "button", "put", "each", "col", "row", "when"] : List Str) → Fit 6 0 (.str z) := fun z hz => by
        refine .str ?_ ?_
        · have : ∀ z ∈ ([("text" : Str), "button", "put", "each", "col", "row", "when"] : List Str), ∀ c ∈ z.cps.toList, c < 1114112 := by decide +kernel
          exact this z hz
        · have : ∀ z ∈ ([("text" : Str), "button", "put", "each", "col", "row", "when"] : List Str), z.length ≤ 6 := by decide +kernel
          exact this z hz
      cases s with
      | text f =>
        have f1 := w4 "text" (by simp)
        have f2 : Fit 1024 3 f := lc
        have a1 := f1.wt; have a2 := f2.wt
        simp only [toD]
        refine (Fit.tup (w := 1900) (dp := 3) ?_ fun d hd => ?_).mono (by omega) (by omega)
        · simp only [PyData.weightAll]; omega
        · simp only [List.mem_cons, List.not_mem_nil, or_false] at hd
          rcases hd with rfl | rfl
          · exact ⟨_, f1.mono (Nat.le_refl _) (by decide)⟩
          · exact ⟨_, f2⟩
      | button w =>
        have f1 := w4 "button" (by simp)
        have f2 : Fit 8 0 w := lc
        have a1 := f1.wt; have a2 := f2.wt
        simp only [toD]
        refine (Fit.tup (w := 1900) (dp := 3) ?_ fun d hd => ?_).mono (by omega) (by omega)
        · simp only [PyData.weightAll]; omega
        · simp only [List.mem_cons, List.not_mem_nil, or_false] at hd
          rcases hd with rfl | rfl
          · exact ⟨_, f1.mono (Nat.le_refl _) (by decide)⟩
          · exact ⟨_, f2.mono (Nat.le_refl _) (by decide)⟩
      | put c fs =>
        have f1 := w4 "put" (by simp)
        obtain ⟨f2, l3, f3⟩ : Fit 8 0 c ∧ fs.length ≤ 3 ∧ ∀ f ∈ fs, Fit 256 2 f := lc
        have f4 := fit_forms l3 f3
        have a1 := f1.wt; have a2 := f2.wt; have a3 := f4.wt
        simp only [toD]
        refine (Fit.tup (w := 1900) (dp := 3) ?_ fun d hd => ?_).mono (by omega) (by omega)
        · simp only [PyData.weightAll]; omega
        · simp only [List.mem_cons, List.not_mem_nil, or_false] at hd
          rcases hd with rfl | rfl | rfl
          · exact ⟨_, f1.mono (Nat.le_refl _) (by decide)⟩
          · exact ⟨_, f2.mono (Nat.le_refl _) (by decide)⟩
          · exact ⟨_, f4⟩
      | each t m k c fs =>
        have f1 := w4 "each" (by simp)
        obtain ⟨f2, f5, f6, f7, l3, f3⟩ : Fit 256 2 t ∧ Fit 104 2 m ∧ Fit 256 2 k ∧ Fit 8 0 c ∧ fs.length ≤ 3 ∧ ∀ f ∈ fs, Fit 256 2 f := lc
        have f4 := fit_forms l3 f3
        have a1 := f1.wt; have a2 := f2.wt; have a3 := f4.wt; have a5 := f5.wt; have a6 := f6.wt; have a7 := f7.wt
        simp only [toD]
        refine (Fit.tup (w := 1900) (dp := 3) ?_ fun d hd => ?_).mono (by omega) (by omega)
        · simp only [PyData.weightAll]; omega
        · simp only [List.mem_cons, List.not_mem_nil, or_false] at hd
          rcases hd with rfl | rfl | rfl | rfl | rfl | rfl
          · exact ⟨_, f1.mono (Nat.le_refl _) (by decide)⟩
          · exact ⟨_, f2.mono (Nat.le_refl _) (by decide)⟩
          · exact ⟨_, f5.mono (Nat.le_refl _) (by decide)⟩
          · exact ⟨_, f6.mono (Nat.le_refl _) (by decide)⟩
          · exact ⟨_, f7.mono (Nat.le_refl _) (by decide)⟩
          · exact ⟨_, f4⟩
      | line col ps =>
        have f1 := w4 (lword col) (by cases col <;> simp [lword])
        have a1 := f1.wt
        have hw := fits_w (ps := ps) fun p hp => (ih p hp).2
        have fi : Fit (2000 * (numbs ps).length) (2 * hgts ps + 3 + 1) (.tuple (ps.map toD)) := .tup hw fun d hd => by
          obtain ⟨p, hp, rfl⟩ := List.mem_map.mp hd
          have := hgt_mem hp
          exact ⟨_, (ih p hp).1.mono (Nat.le_refl _) (by omega)⟩
        have a2 := fi.wt
        have c2 : cnt (.line col ps) = (numbs ps).length + 1 := c1
        have h2 : hgt (.line col ps) = hgts ps + 1 := h1
        simp only [toD, toDs_eq]
        refine (Fit.tup (w := 2000 * (numbs ps).length + 20) (dp := 2 * hgts ps + 3 + 1) ?_ fun d hd => ?_).mono (by omega) (by omega)
        · simp only [PyData.weightAll]; omega
        · simp only [List.mem_cons, List.not_mem_nil, or_false] at hd
          rcases hd with rfl | rfl
          · exact ⟨_, f1.mono (Nat.le_refl _) (Nat.zero_le _)⟩
          · exact ⟨_, fi⟩
      | wen f a b =>
        have f1 := w4 "when" (by simp)
        have f2 : Fit 1024 3 f := lc
        have f3 := ih a (by simp [parts])
        have f4 := ih b (by simp [parts])
        have a1 := f1.wt; have a2 := f2.wt
        have c2 : cnt (.wen f a b) = cnt a + cnt b + 1 := by
          rw [c1]
          show (numbs [a, b]).length + 1 = _
          simp only [numbs, List.append_nil, List.length_append]
          rfl
        have h2 : hgt (.wen f a b) = max (hgt a) (hgt b) + 1 := by simp only [hgt]
        simp only [toD]
        refine (Fit.tup (w := 2000 * cnt a + 2000 * cnt b + 1100) (dp := 2 * max (hgt a) (hgt b) + 3) ?_ fun d hd => ?_).mono (by omega) (by omega)
        · simp only [PyData.weightAll]; omega
        · simp only [List.mem_cons, List.not_mem_nil, or_false] at hd
          rcases hd with rfl | rfl | rfl | rfl
          · exact ⟨_, f1.mono (Nat.le_refl _) (Nat.zero_le _)⟩
          · exact ⟨_, f2.mono (Nat.le_refl _) (by omega)⟩
          · exact ⟨_, f3.1.mono (Nat.le_refl _) (by omega)⟩
          · exact ⟨_, f4.1.mono (Nat.le_refl _) (by omega)⟩
    have := main.wt
    exact ⟨main, by omega⟩
theorem SOk.fit {s : Sh} (h : SOk s) (c : cnt s ≤ 16) (g : hgt s ≤ 5) : Fit 32000 13 (toD s) := (fit_sh _ s (Nat.le_refl _) h).1.mono (by omega) (by omega)
/-- what a shape's tuple holds -/
def word : Sh → Str
  | .text _ => "text"
  | .button _ => "button"
  | .put _ _ => "put"
  | .each _ _ _ _ _ => "each"
  | .line c _ => lword c
  | .wen _ _ _ => "when"
def args : Sh → List PyData
  | .text f => [f]
  | .button w => [w]
  | .put c fs => [c, .tuple fs]
  | .each t m k c fs => [t, m, k, c, .tuple fs]
  | .line _ ps => [.tuple (ps.map toD)]
  | .wen f a b => [f, toD a, toD b]
theorem toD_eq (s : Sh) : toD s = .tuple (.str (word s) :: args s) := by
  cases s <;> simp only [toD, word, args, toDs_eq]
theorem shp_at {K : PySem.W.Frag} {G : Hp} {v : V} {s : Sh} (h : Dp K G v (toD s)) : ∃ a rest, v = .ref a ∧ SqT K G a (.str (word s) :: rest) ∧ DpAll K G rest (args s) := by
  rw [toD_eq] at h
  obtain ⟨a, xs, rfl, h1, h2⟩ := dp_tup h
  obtain ⟨x, r, rfl, h3, h4⟩ := dpa_cons h2
  rw [dp_str h3] at h1
  exact ⟨a, r, rfl, h1, h4⟩

/-! ### comprehensions whose elements are data -/
theorem lc_dpX {K : PySem.W.Frag} {J : It} {n : Nat} {GW : Hp → Prop} {Y : Nat → Hp → V → Hp → Prop} (wk : Walk J n GW Y) {g : TG} {tt : TT} {te : TE} {vs : List Nat} {σ : L2.St} {H1 : Hp} {D : Addr} {Qd : Hp → Prop} {G : Hp} {M : List (Addr × HO)}
    (S : Sep G M H1) (nD : H1 D = none) (out : Nat → List PyData) (o0 : out 0 = []) (sm : n ≤ 100000) (hG : ∀ G' H' ws, Same G G' → Sep G' ((D, .lst ws) :: M) H' → GW H')
    (hs : ∀ (i : Nat) (x : V) G' H' H2 ws (R : VK) (F : Hp → Prop), i < n → Same G G' → Sep G' ((D, .lst ws) :: M) H' → Y i H' x H2 →
      (∀ y d G2 H3, out (i + 1) = out i ++ [d] → Same G' G2 → Sep G2 ((D, .lst ws) :: M) H3 → Dp K G2 y d → R y H3) →
      (out (i + 1) = out i → ∀ G2 H3, Same G' G2 → Sep G2 ((D, .lst ws) :: M) H3 → F H3) →
      g x (wipe σ vs) H2 fun σ2 H2 => wipe σ2 vs = wipe σ vs ∧ tt σ2 H2 fun b H3 => if b = true then te σ2 H3 R else F H3)
    (hd : ∀ G' H' ws, Same G G' → Sep G' ((D, .lst ws) :: M) H' → DpAll K G' ws (out n) → Qd H') :
    ∃ W : Nat → Nat → Hp → Prop, (∃ m, W 0 m (upd H1 D (.lst []))) ∧ ∀ i m H, W i m H →
      (J.stop i H ∧ Qd H) ∨ (J.go i H ∧ ∃ Nx : Hp → Prop, (∀ H', Nx H' → ∃ m', m' < m ∧ W (i + 1) m' H') ∧ ∀ x H', J.yld i H x H' → g x (wipe σ vs) H' fun σ2 H2 => wipe σ2 vs = wipe σ vs ∧ tt σ2 H2 fun b H3 =>
        if b = true then te σ2 H3 fun y H4 => ∃ acc, H4 D = some (.lst acc) ∧ acc.length < sizeLine ∧ Nx (upd H4 D (.lst (acc ++ [y]))) else Nx H3) := by
  refine lc_it wk (fun i H' => (out i).length ≤ i ∧ i ≤ n ∧ ∃ G' ws, Same G G' ∧ DpAll K G' ws (out i) ∧ Sep G' ((D, .lst ws) :: M) H') ⟨by rw [o0]; simp, Nat.zero_le _, G, [], Same.refl _, by rw [o0]; exact .nil, S.new nD⟩ (fun i H' _ h => ?_) (fun i x H' H2 hi h y => ?_) (fun H' h => ?_)
  · obtain ⟨_, _, G', ws, s', _, S'⟩ := h
    exact hG G' H' ws s' S'
  · obtain ⟨ol, _, G', ws, s', hw, S'⟩ := h
    refine hs i x G' H' H2 ws _ _ hi s' S' y (fun y d G2 H3 e s2 S2 hy => ?_) (fun e G2 H3 s2 S2 => ?_)
    · have wl := dpa_len hw
      refine ⟨ws, S2.hd, smallL (by omega), by rw [e, List.length_append]; simp only [List.length_cons, List.length_nil]; omega, hi, G2, ws ++ [y], s'.trans s2, ?_, S2.set⟩
      rw [e]
      exact dpa_app (dpa_same s2 hw) (dpa_one hy)
    · exact ⟨by rw [e]; omega, hi, G2, ws, s'.trans s2, by rw [e]; exact dpa_same s2 hw, S2⟩
  · obtain ⟨_, _, G', ws, s', hw, S'⟩ := h
    exact hd G' H' ws s' S' hw
theorem lc_dp {K : PySem.W.Frag} {J : It} {n : Nat} {GW : Hp → Prop} {Y : Nat → Hp → V → Hp → Prop} (wk : Walk J n GW Y) {g : TG} {te : TE} {vs : List Nat} {σ : L2.St} {H1 : Hp} {D : Addr} {Qd : Hp → Prop} {G : Hp} {M : List (Addr × HO)}
    (S : Sep G M H1) (nD : H1 D = none) (out : List PyData) (hn : out.length = n) (sm : n ≤ 100000) (hG : ∀ G' H' ws, Same G G' → Sep G' ((D, .lst ws) :: M) H' → GW H')
    (hs : ∀ (i : Nat) (x : V) (d : PyData) G' H' H2 ws (R : VK), i < n → out[i]? = some d → Same G G' → Sep G' ((D, .lst ws) :: M) H' → Y i H' x H2 →
      (∀ y G2 H3, Same G' G2 → Sep G2 ((D, .lst ws) :: M) H3 → Dp K G2 y d → R y H3) →
      g x (wipe σ vs) H2 fun σ2 H2 => wipe σ2 vs = wipe σ vs ∧ te σ2 H2 R)
    (hd : ∀ G' H' ws, Same G G' → Sep G' ((D, .lst ws) :: M) H' → DpAll K G' ws out → Qd H') :
    ∃ W : Nat → Nat → Hp → Prop, (∃ m, W 0 m (upd H1 D (.lst []))) ∧ ∀ i m H, W i m H →
      (J.stop i H ∧ Qd H) ∨ (J.go i H ∧ ∃ Nx : Hp → Prop, (∀ H', Nx H' → ∃ m', m' < m ∧ W (i + 1) m' H') ∧ ∀ x H', J.yld i H x H' → g x (wipe σ vs) H' fun σ2 H2 => wipe σ2 vs = wipe σ vs ∧ tYes σ2 H2 fun b H3 =>
        if b = true then te σ2 H3 fun y H4 => ∃ acc, H4 D = some (.lst acc) ∧ acc.length < sizeLine ∧ Nx (upd H4 D (.lst (acc ++ [y]))) else Nx H3) := by
  refine lc_dpX (K := K) wk (tt := tYes) S nD (fun i => out.take i) (by simp) sm hG (fun i x G' H' H2 ws R F hi s' S' y hR hF => ?_) (fun G' H' ws s' S' hw => ?_)
  · have e : out[i]? = some (out[i]'(by omega)) := List.getElem?_eq_getElem (by omega)
    exact hs i x _ G' H' H2 ws R hi e s' S' y fun y G2 H3 s2 S2 hy => hR y _ G2 H3 (XL.take_snoc e) s2 S2 hy
  · rw [← hn, List.take_length] at hw
    exact hd G' H' ws s' S' hw
/-- over a tuple of data -/
theorem lc_dpT {K : PySem.W.Frag} {p : Addr} {xs : List V} {ds : List PyData} {g : TG} {te : TE} {vs : List Nat} {σ : L2.St} {H1 : Hp} {D : Addr} {Qd : Hp → Prop} {G : Hp} {M : List (Addr × HO)}
    (S : Sep G M H1) (nD : H1 D = none) (hp : SqT K G p xs) (hx : DpAll K G xs ds) (out : List PyData) (hn : out.length = ds.length) (sm : ds.length ≤ 100000)
    (hs : ∀ (i : Nat) (x : V) (e d : PyData) G' H' ws (R : VK), ds[i]? = some e → out[i]? = some d → Dp K G' x e → Same G G' → Sep G' ((D, .lst ws) :: M) H' →
      (∀ y G2 H3, Same G' G2 → Sep G2 ((D, .lst ws) :: M) H3 → Dp K G2 y d → R y H3) →
      g x (wipe σ vs) H' fun σ2 H2 => wipe σ2 vs = wipe σ vs ∧ te σ2 H2 R)
    (hd : ∀ G' H' ws, Same G G' → Sep G' ((D, .lst ws) :: M) H' → DpAll K G' ws out → Qd H') :
    ∃ W : Nat → Nat → Hp → Prop, (∃ m, W 0 m (upd H1 D (.lst []))) ∧ ∀ i m H, W i m H →
      ((Itt K p).stop i H ∧ Qd H) ∨ ((Itt K p).go i H ∧ ∃ Nx : Hp → Prop, (∀ H', Nx H' → ∃ m', m' < m ∧ W (i + 1) m' H') ∧ ∀ x H', (Itt K p).yld i H x H' → g x (wipe σ vs) H' fun σ2 H2 => wipe σ2 vs = wipe σ vs ∧ tYes σ2 H2 fun b H3 =>
        if b = true then te σ2 H3 fun y H4 => ∃ acc, H4 D = some (.lst acc) ∧ acc.length < sizeLine ∧ Nx (upd H4 D (.lst (acc ++ [y]))) else Nx H3) := by
  have xl := dpa_len hx
  refine lc_dp (K := K) (walk_tup (xs := xs)) S nD out (by rw [hn, xl]) (by omega) (fun G' H' ws s' S' => S'.t (same_t s' hp)) (fun i x d G' H' H2 ws R hi hd s' S' y hR => ?_) hd
  obtain ⟨rfl, hy⟩ := y
  obtain ⟨e, he, hxe⟩ := dpa_get hx hy
  exact hs i x e d G' _ ws R he hd (dp_same s' hxe) s' S' hR
/-- over a list of data -/
theorem lc_dpL {K : PySem.W.Frag} {p : Addr} {xs : List V} {ds : List PyData} {g : TG} {te : TE} {vs : List Nat} {σ : L2.St} {H1 : Hp} {D : Addr} {Qd : Hp → Prop} {G : Hp} {M : List (Addr × HO)}
    (S : Sep G M H1) (nD : H1 D = none) (hp : ∀ G' H' l, Same G G' → Sep G' ((D, l) :: M) H' → SqL K H' p xs) (hx : DpAll K G xs ds) (out : List PyData) (hn : out.length = ds.length) (sm : ds.length ≤ 100000)
    (hs : ∀ (i : Nat) (x : V) (e d : PyData) G' H' ws (R : VK), ds[i]? = some e → out[i]? = some d → Dp K G' x e → Same G G' → Sep G' ((D, .lst ws) :: M) H' →
      (∀ y G2 H3, Same G' G2 → Sep G2 ((D, .lst ws) :: M) H3 → Dp K G2 y d → R y H3) →
      g x (wipe σ vs) H' fun σ2 H2 => wipe σ2 vs = wipe σ vs ∧ te σ2 H2 R)
    (hd : ∀ G' H' ws, Same G G' → Sep G' ((D, .lst ws) :: M) H' → DpAll K G' ws out → Qd H') :
    ∃ W : Nat → Nat → Hp → Prop, (∃ m, W 0 m (upd H1 D (.lst []))) ∧ ∀ i m H, W i m H →
      ((Itl K p).stop i H ∧ Qd H) ∨ ((Itl K p).go i H ∧ ∃ Nx : Hp → Prop, (∀ H', Nx H' → ∃ m', m' < m ∧ W (i + 1) m' H') ∧ ∀ x H', (Itl K p).yld i H x H' → g x (wipe σ vs) H' fun σ2 H2 => wipe σ2 vs = wipe σ vs ∧ tYes σ2 H2 fun b H3 =>
        if b = true then te σ2 H3 fun y H4 => ∃ acc, H4 D = some (.lst acc) ∧ acc.length < sizeLine ∧ Nx (upd H4 D (.lst (acc ++ [y]))) else Nx H3) := by
  have xl := dpa_len hx
  refine lc_dp (K := K) (walk_list (xs := xs)) S nD out (by rw [hn, xl]) (by omega) (fun G' H' ws s' S' => hp G' H' _ s' S') (fun i x d G' H' H2 ws R hi hd s' S' y hR => ?_) hd
  obtain ⟨rfl, hy⟩ := y
  obtain ⟨e, he, hxe⟩ := dpa_get hx hy
  exact hs i x e d G' _ ws R he hd (dp_same s' hxe) s' S' hR
theorem dpa_strs {K : PySem.W.Frag} {G : Hp} : ∀ {ws : List V} {ns : List Str}, DpAll K G ws (ns.map PyData.str) → ws = ns.map V.str
  | _, [], h => dpa_nil h
  | _, n :: r, h => by
    obtain ⟨x, r', rfl, h1, h2⟩ := dpa_cons h
    rw [dp_str h1, dpa_strs h2]
    rfl
theorem dpa_of_strs {K : PySem.W.Frag} {G : Hp} : ∀ ns : List Str, DpAll K G (ns.map V.str) (ns.map PyData.str)
  | [] => .nil
  | n :: r => .cons (.str n) (dpa_of_strs r)
theorem dp_int {K : PySem.W.Frag} {G : Hp} {v : V} {n : Int} (h : Dp K G v (.int n)) : v = .int n := by
  cases h
  rfl
theorem dp_bl {K : PySem.W.Frag} {G : Hp} {v : V} {b : Bool} (h : Dp K G v (.bool b)) : v = .bl b := by
  cases h
  rfl
theorem dp_non {K : PySem.W.Frag} {G : Hp} {v : V} (h : Dp K G v .none) : v = .non := by
  cases h
  rfl
theorem dpa_yes {K : PySem.W.Frag} {G : Hp} : ∀ {n : Nat} {ws : List V}, DpAll K G ws (List.replicate n (PyData.bool true)) → ws = (List.replicate n true).map V.bl
  | 0, _, h => dpa_nil h
  | n + 1, _, h => by
    obtain ⟨x, r', rfl, h1, h2⟩ := dpa_cons h
    rw [dp_bl h1, dpa_yes h2]
    rfl
theorem all_yes (n : Nat) : (List.replicate n true).all id = true := by
  rw [List.all_eq_true]
  intro b hb
  rw [List.eq_of_mem_replicate hb]
  rfl
theorem rep_get {n i : Nat} {a d : PyData} (h : (List.replicate n a)[i]? = some d) : d = a := by
  have := List.mem_of_getElem? h
  exact List.eq_of_mem_replicate this
theorem dp_get {K : PySem.W.Frag} {G : Hp} {xs : List V} {ds : List PyData} {i : Nat} {d : PyData} (h : DpAll K G xs ds) (hd : ds[i]? = some d) : ∃ x, xs[i]? = some x ∧ Dp K G x d := by
  have il := (List.getElem?_eq_some_iff.mp hd).1
  have xl := dpa_len h
  have e : xs[i]? = some (xs[i]'(by omega)) := List.getElem?_eq_getElem (by omega)
  obtain ⟨d', h1, h2⟩ := dpa_get h e
  rw [hd] at h1
  cases h1
  exact ⟨_, e, h2⟩
theorem dp_mk {K : PySem.W.Frag} {G H : Hp} {M : List (Addr × HO)} {p : Addr} {xs : List V} {ds : List PyData} (S : Sep G M H) (h : H p = none) (hx : DpAll K G xs ds) : ∃ G', Same G G' ∧ Sep G' M (upd H p (.tup xs)) ∧ Dp K G' (.ref p) (.tuple ds) := by
  obtain ⟨G1, s1, S1, h1⟩ := Sep.mk (o := .tup xs) S h
  exact ⟨G1, s1, S1, .tup (SqT.of h1) (dpa_same s1 hx)⟩
theorem ty_tup {K : PySem.W.Frag} {G H : Hp} {M : List (Addr × HO)} {p : Addr} {xs : List V} (S : Sep G M H) (h : SqT K G p xs) : TyX K H (.ref p) (.type "tuple") := sqT_ty (S.t h)

/-! ### a component's parts as data -/
def Gm.dat : Gm → PyData
  | .is n => .tuple [.str "is", .int n]
  | .get x => .tuple [.str "get", .str x]
  | .sum a b => .tuple [.str "sum", a.dat, b.dat]
  | .same a b => .tuple [.str "same", a.dat, b.dat]
  | .pick a b c => .tuple [.str "pick", a.dat, b.dat, c.dat]
theorem gm_dp {K : PySem.W.Frag} {G : Hp} {v : V} {f : Gm} (h : GmAt K G v f) : Dp K G v f.dat := by
  induction h with
  | is h => exact .tup h (.cons (.str _) (.cons (.int _) .nil))
  | get h => exact .tup h (.cons (.str _) (.cons (.str _) .nil))
  | sum h _ _ h2 h3 => exact .tup h (.cons (.str _) (.cons h2 (.cons h3 .nil)))
  | same h _ _ h2 h3 => exact .tup h (.cons (.str _) (.cons h2 (.cons h3 .nil)))
  | pick h _ _ _ h2 h3 h4 => exact .tup h (.cons (.str _) (.cons h2 (.cons h3 (.cons h4 .nil))))
theorem gm_at {K : PySem.W.Frag} {G : Hp} : ∀ {f : Gm} {v : V}, Dp K G v f.dat → GmAt K G v f
  | .is n, v, h => by
    obtain ⟨a, xs, rfl, h1, h2⟩ := dp_tup h
    obtain ⟨x, r, rfl, h3, h4⟩ := dpa_cons h2
    obtain ⟨y, r2, rfl, h5, h6⟩ := dpa_cons h4
    rw [dp_str h3, dp_int h5, dpa_nil h6] at h1
    exact .is h1
  | .get n, v, h => by
    obtain ⟨a, xs, rfl, h1, h2⟩ := dp_tup h
    obtain ⟨x, r, rfl, h3, h4⟩ := dpa_cons h2
    obtain ⟨y, r2, rfl, h5, h6⟩ := dpa_cons h4
    rw [dp_str h3, dp_str h5, dpa_nil h6] at h1
    exact .get h1
  | .sum a b, v, h => by
    obtain ⟨p, xs, rfl, h1, h2⟩ := dp_tup h
    obtain ⟨x, r, rfl, h3, h4⟩ := dpa_cons h2
    obtain ⟨y, r2, rfl, h5, h6⟩ := dpa_cons h4
    obtain ⟨z, r3, rfl, h7, h8⟩ := dpa_cons h6
    rw [dp_str h3, dpa_nil h8] at h1
    exact .sum h1 (gm_at h5) (gm_at h7)
  | .same a b, v, h => by
    obtain ⟨p, xs, rfl, h1, h2⟩ := dp_tup h
    obtain ⟨x, r, rfl, h3, h4⟩ := dpa_cons h2
    obtain ⟨y, r2, rfl, h5, h6⟩ := dpa_cons h4
    obtain ⟨z, r3, rfl, h7, h8⟩ := dpa_cons h6
    rw [dp_str h3, dpa_nil h8] at h1
    exact .same h1 (gm_at h5) (gm_at h7)
  | .pick a b c, v, h => by
    obtain ⟨p, xs, rfl, h1, h2⟩ := dp_tup h
    obtain ⟨x, r, rfl, h3, h4⟩ := dpa_cons h2
    obtain ⟨y, r2, rfl, h5, h6⟩ := dpa_cons h4
    obtain ⟨z, r3, rfl, h7, h8⟩ := dpa_cons h6
    obtain ⟨u, r4, rfl, h9, h10⟩ := dpa_cons h8
    rw [dp_str h3, dpa_nil h10] at h1
    exact .pick h1 (gm_at h5) (gm_at h7) (gm_at h9)
/-- a good form over these names -/
def GdF (ns : List Str) (f : Gm) : Prop := f.ok ns ∧ f.dep ≤ 5
theorem Gm.ok_mono {ns ms : List Str} (h : ∀ x ∈ ns, x ∈ ms) : ∀ {f : Gm}, f.ok ns → f.ok ms
  | .is _, o => o
  | .get x, o => h x o
  | .sum a b, o => ⟨Gm.ok_mono h o.1, Gm.ok_mono h o.2⟩
  | .same a b, o => ⟨Gm.ok_mono h o.1, Gm.ok_mono h o.2⟩
  | .pick a b c, o => ⟨Gm.ok_mono h o.1, Gm.ok_mono h o.2.1, Gm.ok_mono h o.2.2⟩
theorem GdF.mono {ns ms : List Str} (h : ∀ x ∈ ns, x ∈ ms) {f : Gm} (g : GdF ns f) : GdF ms f := ⟨Gm.ok_mono h g.1, g.2⟩
def strsD (ns : List Str) : PyData := .tuple (ns.map PyData.str)
def d2 (r : Str × Int) : PyData := .tuple [.str r.1, .int r.2]
def d3 (r : Str × Int × Int) : PyData := .tuple [.str r.1, .int r.2.1, .int r.2.2]
def dAsk (r : Str × Gm × Str) : PyData := .tuple [.str r.1, r.2.1.dat, .str r.2.2]
def dGive (r : Str × Int × Gm) : PyData := .tuple [.str r.1, .int r.2.1, r.2.2.dat]
def dEff (r : Str × Gm × List Str) : PyData := .tuple [.str r.1, r.2.1.dat, strsD r.2.2]
def dSet (r : Str × Gm) : PyData := .tuple [.str r.1, r.2.dat]
def dDeed (r : Str × List (Str × Gm) × Bool) : PyData := .tuple [.str r.1, .tuple (r.2.1.map dSet), .bool r.2.2]
def dIsl : Option (Str × Bool) → PyData
  | none => .none
  | some r => .tuple [.str r.1, .bool r.2]
structure Cp where
  name : Str
  shape : Sh
  takes : List (Str × Int)
  hears : List (Str × Int × Int)
  cells : List (Str × Int × Int)
  asks : List (Str × Gm × Str)
  gives : List (Str × Int × Gm)
  effs : List (Str × Gm × List Str)
  deeds : List (Str × List (Str × Gm) × Bool)
  looks : List Str
  isl : Option (Str × Bool)
def Cp.handed (c : Cp) : List Str := c.takes.map (·.1) ++ c.hears.map (·.1)
def Cp.told (c : Cp) : List Str := c.handed ++ c.cells.map (·.1)
def Cp.names (c : Cp) : List Str := c.told ++ c.asks.map (·.1)
/-- fresh names -/
structure Frs (ws es : List Str) : Prop where
  lt : ∀ z ∈ ws, Lt 1 8 z
  no : ∀ z ∈ ws, z ≠ "item" ∧ z ≠ "at" ∧ z ∉ es
  nd : ws.Nodup
structure Wds (ws : List Str) : Prop where
  lt : ∀ z ∈ ws, Lt 1 8 z
  nd : ws.Nodup
def GdM (m : PyData) : Prop := ∃ rs : List (List Int), m = .tuple (rs.map fun r => .tuple (r.map PyData.int)) ∧ 1 ≤ rs.length ∧ rs.length ≤ 4 ∧ ∀ r ∈ rs, r.length ≤ 5 ∧ r.Nodup ∧ ∀ n ∈ r, 0 ≤ n ∧ n ≤ 9
def FmD (ns : List Str) (d : PyData) : Prop := ∃ f : Gm, d = f.dat ∧ GdF ns f
def NmD (d : PyData) : Prop := ∃ z : Str, d = .str z ∧ Lt 1 8 z
def LG (ns : List Str) : Sh → Prop
  | .text f => FmD ns f
  | .button w => NmD w
  | .put c fs => NmD c ∧ fs.length ≤ 16 ∧ ∀ f ∈ fs, FmD ns f
  | .each t m k c fs => FmD ns t ∧ GdM m ∧ FmD ["item", "at"] k ∧ NmD c ∧ fs.length ≤ 16 ∧ ∀ f ∈ fs, FmD (ns ++ (["item", "at"] : List Str)) f
  | .line _ ps => ps.length ≤ 16
  | .wen f _ _ => FmD ns f
def SG (ns : List Str) (s : Sh) : Prop := ∀ p ∈ numb s, LG ns p
theorem SG.loc {ns : List Str} {s : Sh} (h : SG ns s) : LG ns s := h s (by rw [numb_eq]; simp)
theorem SG.part {ns : List Str} {s p : Sh} (h : SG ns s) (hp : p ∈ parts s) : SG ns p := fun x hx => h x (by rw [numb_eq s]; exact List.mem_cons_of_mem _ (mem_numbs.mpr ⟨p, hp, hx⟩))
theorem SG.mk {ns : List Str} {s : Sh} (h : LG ns s) (hp : ∀ p ∈ parts s, SG ns p) : SG ns s := fun x hx => by
  rw [numb_eq s] at hx
  rcases List.mem_cons.mp hx with rfl | hx
  · exact h
  · obtain ⟨p, h1, h2⟩ := mem_numbs.mp hx
    exact hp p h1 x h2
structure GdC (c : Cp) : Prop where
  nm : Lt 1 8 c.name
  t1 : Frs (c.takes.map (·.1)) []
  t2 : c.takes.length ≤ 3 ∧ ∀ r ∈ c.takes, 1 ≤ r.2 ∧ r.2 ≤ 4
  h1 : Frs (c.hears.map (·.1)) (c.takes.map (·.1))
  h2 : c.hears.length ≤ 2 ∧ ∀ r ∈ c.hears, 1 ≤ r.2.1 ∧ r.2.1 ≤ 4 ∧ 0 ≤ r.2.2 ∧ r.2.2 < r.2.1
  c1 : Frs (c.cells.map (·.1)) c.handed
  c2 : c.cells.length ≤ 12 ∧ ∀ r ∈ c.cells, 1 ≤ r.2.1 ∧ r.2.1 ≤ 4 ∧ 0 ≤ r.2.2 ∧ r.2.2 < r.2.1
  a1 : Frs (c.asks.map (·.1)) c.told
  a2 : c.asks.length ≤ 2 ∧ ∀ r ∈ c.asks, GdF c.told r.2.1 ∧ r.2.2 ∈ (["any", "own", "same", "both", "last"] : List Str)
  g1 : Frs (c.gives.map (·.1)) []
  g2 : c.gives.length ≤ 2 ∧ ∀ r ∈ c.gives, 1 ≤ r.2.1 ∧ r.2.1 ≤ 4 ∧ GdF c.names r.2.2
  e1 : Wds (c.effs.map (·.1))
  e2 : c.effs.length ≤ 2 ∧ ∀ r ∈ c.effs, GdF c.names r.2.1 ∧ r.2.2.Nodup ∧ ∀ z ∈ r.2.2, z ∈ c.names
  d1 : Wds (c.deeds.map (·.1))
  d2 : c.deeds.length ≤ 14 ∧ ∀ r ∈ c.deeds, (1 ≤ r.2.1.length ∧ r.2.1.length ≤ 5) ∧ (r.2.1.map (·.1)).Nodup ∧ ∀ q ∈ r.2.1, q.1 ∈ c.cells.map (·.1) ∧ GdF (c.names ++ (["item"] : List Str)) q.2
  l1 : c.looks.Nodup ∧ ∀ z ∈ c.looks, z ∈ c.handed
  i1 : ∀ r, c.isl = some r → r.1 ∈ (["lost", "kept", "takes"] : List Str)
  s1 : SG c.names c.shape ∨ ∃ col ps, c.shape = .line col ps ∧ 16 < ps.length
  sh : hgt c.shape ≤ 5
  s2 : ∃ col ps, c.shape = .line col ps
theorem GdC.lt {c : Cp} (g : GdC c) : ∀ z ∈ c.names, Lt 1 8 z := fun z hz => by
  rcases List.mem_append.mp hz with h | h
  · rcases List.mem_append.mp h with h | h
    · rcases List.mem_append.mp h with h | h
      · exact g.t1.lt z h
      · exact g.h1.lt z h
    · exact g.c1.lt z h
  · exact g.a1.lt z h
theorem GdC.many {c : Cp} (g : GdC c) : c.names.length ≤ 19 := by
  have h1 := g.t2.1; have h2 := g.h2.1; have h3 := g.c2.1; have h4 := g.a2.1
  simp only [Cp.names, Cp.told, Cp.handed, List.length_append, List.length_map]
  omega

section
variable {P : Program} {w : World} {K : PySem.W.Frag} {mg : Str → Option Value} {base : Heap}
end
end K57
set_option Elab.async false
set_option linter.all false
set_option maxRecDepth 100000
set_option maxHeartbeats 4000000
namespace K57
open PySem PySem.Spec PyProof.Rows L2 XL
section
variable {P : Program} {w : World} {K : PySem.W.Frag} {mg : Str → Option Value} {base : Heap}
/-! ### good_form of a good form -/
def spGf (K : PySem.W.Frag) : Sp := fun vs H Q _ => ∃ (G : Hp) (M : List (Addr × HO)) (v : V) (d : PyData) (l : Addr) (ns : List Str), vs = [v, .ref l] ∧ Sep G M H ∧ Dp K G v d ∧ FmD ns d ∧ (∀ z ∈ ns, Lt 1 8 z) ∧ ns.length ≤ 100 ∧ SqL K G l (ns.map V.str) ∧
  ∀ (G' H' : Hp), Same G G' → Sep G' M H' → Q (.bl true) H'
theorem ok_good_form (T : Top K mg w) {k : Nat} (G_check_form : FnOk P w K mg base CX0 k T.a_check_form T.d_check_form ["parts"] (spCheck K)) (G_names_of : FnOk P w K mg base CX0 6 T.a_names_of T.d_names_of ["parts"] (spNamesG K 5)) :
    FnOk P w K mg base CX0 (k + 7) T.a_good_form T.d_good_form ["parts", "names"] (spGf K) := by
  refine T.F_good_form.ok sc_good_form (fun vs H Q E h => ?_) (fun cdv A outer s H vs Q E hr h => ?_)
  · obtain ⟨G, M, v, d, l, ns, rfl, _⟩ := h
    rfl
  · obtain ⟨G, M, v, d, l, ns, rfl, S, hv, ⟨f, rfl, ok, hd⟩, lt, nl, hl, q⟩ := h
    have hf := gm_at hv
    refine ⟨_, (pss_cons (ps_try_thru0 (pss_one (ps_expr (pe_call G_check_form (hr.mono (by omega)) (by rfl) T.g_check_form T.F_check_form.kp T.b_check_form .nil pass0 (pa_cons (xv 0) pa_nil)))))
      (pss_one (ps_ret (pe_callB (cr_allK K rfl) (by rfl) T.m_all (by decide +kernel) (pa_cons (pe_lc (own := [("name", 2)]) (by rfl) sc_good_form.nd (pi_tupK K (pe_call G_names_of (hr.mono (by omega)) (by rfl) T.g_names_of T.F_names_of.kp T.b_names_of .nil pass0 (pa_cons (xv 0) pa_nil))) (blkOk_by (N := ["parts", "names", "name"]) (sc := defScope s_good_form) (by decide +kernel)) (fun _ _ _ _ _ => (pg_name (i := 2) sc_good_form.nd rfl (.inl rfl))) (fun _ _ _ _ _ => pts_nil) (fun _ _ _ _ _ => (pe_cmpR (in_seqK K) (xv 2) (xv 1) (by rfl)))) pa_nil))))), ?_⟩
    refine ⟨G, M, v, f, ns, rfl, lt, S, hf, ok, hd, fun G1 H1 s1 S1 => ?_⟩
    refine ⟨G1, M, v, f, ns, rfl, S1, hf.same' s1, ok, nl, hd, fun p G2 H2 s2 S2 hp => ?_⟩
    have hl2 := same_l s2 (same_l s1 hl)
    refine ⟨p, rfl, ⟨_, SqT.of (S2.st hp)⟩, fun D nD => lc_it (walk_tup (xs := f.nms.map V.str)) (fun i H' => i ≤ f.nms.length ∧ Sep G2 ((D, .lst (List.replicate i (.bl true))) :: M) H') ⟨Nat.zero_le _, S2.new nD⟩ (fun i H' _ S' => SqT.of (S'.2.st hp)) (fun i y H' H'' hi S' hy => ⟨rfl, ?_⟩) (fun H' S' => ?_)⟩
    · obtain ⟨rfl, hy⟩ := hy
      obtain ⟨_, S'⟩ := S'
      rw [List.getElem?_map] at hy
      obtain ⟨m, hm, rfl⟩ := Option.map_eq_some_iff.mp hy
      rw [List.length_map] at hi
      simp only [tYes, if_true]
      have hmn : m ∈ ns := Gm.nms_ok ok m (List.mem_of_getElem? hm)
      refine ⟨l, _, rfl, .inl (S'.l hl2), rfl, strs_flat _, ?_⟩
      rw [inV_str, decide_eq_true hmn]
      refine ⟨_, S'.hd, by rw [List.length_replicate]; exact smallL (by have := nodup_sub (Gm.nms_nd f) (fun x hx => Gm.nms_ok ok x hx); omega), hi, ?_⟩
      rw [List.replicate_succ']
      exact S'.set
    · obtain ⟨_, S'⟩ := S'
      rw [List.length_map] at S'
      have hD := S'.hd
      refine ⟨D, List.replicate f.nms.length true, rfl, ?_, ?_⟩
      · rw [List.map_replicate]
        exact SqL.of hD
      · have e : (List.replicate f.nms.length true).all id = true := by
          rw [List.all_eq_true]
          intro b hb
          rw [List.eq_of_mem_replicate hb]
          rfl
        rw [e]
        exact q _ _ (s1.trans s2) S'.drop

/-! ### good_rows of good rows -/
def spGr (K : PySem.W.Frag) : Sp := fun vs H Q _ => ∃ (G : Hp) (M : List (Addr × HO)) (v : V) (ds : List PyData) (m n : Nat), vs = [v, .int (m : Nat), .int (n : Nat)] ∧ Sep G M H ∧ Dp K G v (.tuple ds) ∧ ds.length ≤ m ∧ ds.length ≤ 200 ∧ n ≤ 200 ∧ (∀ d ∈ ds, ∃ es, d = .tuple es ∧ es.length = n) ∧
  ∀ (G' H' : Hp), Same G G' → Sep G' M H' → Q (.bl true) H'
theorem ok_good_rows (T : Top K mg w) {k : Nat} :
    FnOk P w K mg base CX0 (k + 7) T.a_good_rows T.d_good_rows ["rows", "most", "size"] (spGr K) := by
  refine T.F_good_rows.ok sc_good_rows (fun vs H Q E h => ?_) (fun cdv A outer s H vs Q E hr h => ?_)
  · obtain ⟨G, M, v, ds, m, n, rfl, _⟩ := h
    rfl
  · obtain ⟨G, M, v, ds, m, n, rfl, S, hv, le, sm, nn, hrs, q⟩ := h
    obtain ⟨p, xs, rfl, hp, hx⟩ := dp_tup hv
    have xl := dpa_len hx
    refine ⟨_, (pss_cons (xs_if (PW.pt (xw_or (pt_not (xt_truK K (pe_callB (call_isK K) (by rfl) T.m_isinstance (by decide +kernel) (pa_cons (xv 0) (pa_cons (pe_bltn (v := .ty "tuple") (by rfl) T.m_tuple (by decide +kernel) rfl) pa_nil))))) (pw_or1 (xt_cmp op_gtY (pe_callB (cr_lenK K) (by rfl) T.m_len (by decide +kernel) (pa_cons (xv 0) pa_nil)) (xv 1) (nomark _)))))
      (pss_one (ps_ret pe_bl))
      pss_nil)
      (pss_one (ps_ret (pe_callB (cr_allK K rfl) (by rfl) T.m_all (by decide +kernel) (pa_cons (pe_lc (own := [("row", 3)]) (by rfl) sc_good_rows.nd (pi_tupK K (xv 0)) (blkOk_by (N := ["rows", "most", "size", "row"]) (sc := defScope s_good_rows) (by decide +kernel)) (fun _ _ _ _ _ => (pg_name (i := 3) sc_good_rows.nd rfl (.inl rfl))) (fun _ _ _ _ _ => pts_nil) (fun _ _ _ _ _ => (xe_and (pe_callB (call_isK K) (by rfl) T.m_isinstance (by decide +kernel) (pa_cons (xv 3) (pa_cons (pe_bltn (v := .ty "tuple") (by rfl) T.m_tuple (by decide +kernel) rfl) pa_nil))) (pe_one (pe_cmpR (op_eqLK K hr.u190) (pe_callB (cr_lenK K) (by rfl) T.m_len (by decide +kernel) (pa_cons (xv 3) pa_nil)) (xv 2) (nomark _)))))) pa_nil))))), ?_⟩
    refine ⟨_, _, _, _, true, rfl, .ty _, sqT_ty (S.t hp), kit_ty (by decide +kernel), fun e => (nomatch e), fun _ => ⟨_, .inr (S.t hp), fun e => ?_, fun _ => ?_⟩⟩
    · have := of_decide_eq_true e
      omega
    · refine ⟨p, rfl, ⟨_, S.t hp⟩, fun D nD => lc_dpT S nD hp hx (List.replicate ds.length (.bool true)) (by simp) (by omega) (fun i x e d G' H' ws R he hd hxe s' S' hR => ?_) (fun G' H' ws s' S' hw => ?_)⟩
      · obtain ⟨es, rfl, en⟩ := hrs e (List.mem_of_getElem? he)
        obtain ⟨a, ys, rfl, ha, hy⟩ := dp_tup hxe
        have yl := dpa_len hy
        rw [rep_get hd] at hR
        refine ⟨rfl, _, _, _, _, true, rfl, .ty _, sqT_ty (S'.t ha), kit_ty (by decide +kernel), fun _ => ⟨_, .inr (S'.t ha), ?_⟩, fun e => (nomatch e)⟩
        have e1 : decide ((ys.length : Int) = (n : Nat)) = true := decide_eq_true (by omega)
        show R (.bl (decide ((ys.length : Int) = (n : Nat)))) H'
        rw [e1]
        exact hR _ G' H' (Same.refl _) S' (.bl true)
      · rw [dpa_yes hw] at S'
        refine ⟨D, List.replicate ds.length true, rfl, SqL.of S'.hd, ?_⟩
        rw [all_yes]
        exact q _ _ s' S'.drop

end
end K57
set_option Elab.async false
set_option linter.all false
set_option maxRecDepth 100000
set_option maxHeartbeats 4000000
namespace K57
open PySem PySem.Spec PyProof.Rows L2 XL
section
variable {P : Program} {w : World} {K : PySem.W.Frag} {mg : Str → Option Value} {base : Heap}
/-! ### fresh and different names, and rows of three -/
theorem cutK_to (xs : List V) (k : Nat) (h : k ≤ xs.length) : cutV xs none (some (k : Int)) = xs.take k := by
  unfold cutV
  rw [HT.sIx_nat, HT.sIx_none, Nat.min_eq_left h, Nat.sub_zero, List.drop_zero]
theorem nd_take {ws : List Str} (nd : ws.Nodup) {i : Nat} {z : Str} (h : ws[i]? = some z) : z ∉ ws.take i := by
  intro hm
  rw [(take_pre h).1, List.nodup_append] at nd
  exact nd.2.2 z hm z (by simp) rfl
def spFresh (K : PySem.W.Frag) : Sp := fun vs H Q _ => ∃ (G : Hp) (M : List (Addr × HO)) (p e : Addr) (ws es : List Str), vs = [.ref p, .ref e] ∧ Sep G M H ∧ SqL K G p (ws.map V.str) ∧ SqL K G e (es.map V.str) ∧ ws.length ≤ 200 ∧ Frs ws es ∧
  ∀ (G' H' : Hp), Same G G' → Sep G' M H' → Q (.bl true) H'
theorem ok_fresh (T : Top K mg w) {k : Nat} (G_is_name : FnOk P w K mg base CX0 (k + 1) T.a_is_name T.d_is_name ["thing"] spName) :
    FnOk P w K mg base CX0 (k + 7) T.a_fresh T.d_fresh ["names", "earlier"] (spFresh K) := by
  refine T.F_fresh.ok sc_fresh (fun vs H Q E h => ?_) (fun cdv A outer s H vs Q E hr h => ?_)
  · obtain ⟨G, M, p, e, ws, es, rfl, _⟩ := h
    rfl
  · obtain ⟨G, M, p, e, ws, es, rfl, S, hp, he, sm, fr, q⟩ := h
    refine ⟨_, (pss_cons (ps_for PassesOwn.never rfl (pi_enum (by rfl) T.m_enumerate (pa_cons (xv 0) pa_nil)) (pg_tupK K 2 (pgs_cons (pg_name (i := 2) sc_fresh.nd rfl (.inl rfl)) (pgs_cons (pg_name (i := 3) sc_fresh.nd rfl (.inl rfl)) pgs_nil)))
      (pss_one (xs_if (PW.pt (xw_or (pt_not (xt_truK K (pe_call G_is_name (hr.mono (by omega)) (by rfl) T.g_is_name T.F_is_name.kp T.b_is_name .nil pass0 (pa_cons (xv 3) pa_nil)))) (xw_or (xt_cmp (in_seqK K) (xv 3) (pe_tup (pa_cons pe_str (pa_cons pe_str pa_nil))) (by rfl)) (xw_or (xt_cmp (in_seqK K) (xv 3) (xv 1) (by rfl)) (pw_or1 (xt_cmp (in_seqK K) (xv 3) (pe_slice (sl_listK K) (xv 0) po_none (po_some (xv 2))) (by rfl)))))))
      (pss_one (ps_ret pe_bl))
      pss_nil)))
      (pss_one (ps_ret pe_bl))), ?_⟩
    refine ⟨p, _, rfl, S.l hp, for_enum (xs := ws.map V.str) (fun pre σ H' => ∃ (y2 y3 : Option V) (G' : Hp), σ = [some (.ref p), some (.ref e), y2, y3] ∧ Same G G' ∧ Sep G' M H') ⟨_, _, G, rfl, Same.refl _, S⟩ (fun pre σ H' h => ?_) (fun pre x post σ H' t exs h nt => ?_) (fun σ H' h => ?_)⟩
    · obtain ⟨_, _, G', _, s', S'⟩ := h
      exact S'.l (same_l s' hp)
    · obtain ⟨y2, y3, G', rfl, s', S'⟩ := h
      have hget : (ws.map V.str)[pre.length]? = some x := by rw [exs]; simp
      rw [List.getElem?_map] at hget
      obtain ⟨z, hz, rfl⟩ := Option.map_eq_some_iff.mp hget
      have hzm := List.mem_of_getElem? hz
      have hl := (List.getElem?_eq_some_iff.mp hz).1
      have S1 := S'.newG (o := .tup [.int (pre.length : Nat), .str z]) nt
      have s1 := s'.trans (S'.grow (o := .tup [.int (pre.length : Nat), .str z]) nt)
      refine ⟨_, M, z, rfl, S1, fr.lt z hzm, fun G2 H2 s2 S2 => ⟨ff, fun _ => ⟨sz, fun t2 nt2 => ?_⟩⟩⟩
      have S3 := S2.newG (o := .tup [.str "item", .str "at"]) nt2
      have s3 := (s1.trans s2).trans (S2.grow (o := .tup [.str "item", .str "at"]) nt2)
      obtain ⟨n1, n2, n3⟩ := fr.no z hzm
      have e1 : inV (.str z) [V.str "item", V.str "at"] = false := by
        have := inV_str (x := z) ["item", "at"]
        refine this.trans (decide_eq_false ?_)
        simp only [List.mem_cons, List.not_mem_nil, or_false, not_or]
        exact ⟨n1, n2⟩
      refine ⟨t2, _, rfl, .inr (SqT.of upd_same), rfl, rfl, ?_, ?_⟩
      · intro e
        have e2 : inV (.str z) [V.str "item", V.str "at"] = true := e
        rw [e1] at e2
        cases e2
      · intro _
        refine ⟨e, _, rfl, .inl (S3.l (same_l s3 he)), rfl, strs_flat _, ?_, ?_⟩
        · intro e
          have e2 : inV (.str z) (es.map V.str) = true := e
          rw [inV_str, decide_eq_false n3] at e2
          cases e2
        · intro _
          refine ⟨_, rfl, p, _, rfl, S3.l (same_l s3 hp), fun t3 nt3 => ?_⟩
          have ec : cutV (ws.map V.str) none (some ((pre.length : Nat) : Int)) = (ws.take pre.length).map V.str := by rw [cutK_to _ _ (by rw [List.length_map]; omega), List.map_take]
          refine ⟨t3, _, rfl, .inl (SqL.of upd_same), rfl, ?_, ?_, ?_⟩
          · show (cutV (ws.map V.str) none (some ((pre.length : Nat) : Int))).all flatV = true
            rw [ec]
            exact strs_flat _
          · intro e
            have e2 : inV (.str z) (cutV (ws.map V.str) none (some ((pre.length : Nat) : Int))) = true := e
            rw [ec, inV_str, decide_eq_false (nd_take fr.nd hz)] at e2
            cases e2
          · intro _
            have S4 := S3.newG (o := .lst (cutV (ws.map V.str) none (some ((pre.length : Nat) : Int)))) nt3
            exact ⟨_, _, _, rfl, s3.trans (S3.grow nt3), S4⟩
    · obtain ⟨y2, y3, G', rfl, s', S'⟩ := h
      exact q _ _ s' S'
def spDiff (K : PySem.W.Frag) : Sp := fun vs H Q _ => ∃ (G : Hp) (M : List (Addr × HO)) (p : Addr) (ws : List Str), vs = [.ref p] ∧ Sep G M H ∧ (SqL K G p (ws.map V.str) ∨ SqT K G p (ws.map V.str)) ∧ ws.length ≤ 200 ∧ Wds ws ∧
  ∀ (G' H' : Hp), Same G G' → Sep G' M H' → Q (.bl true) H'
theorem ok_different (T : Top K mg w) {k : Nat} (G_is_name : FnOk P w K mg base CX0 (k + 1) T.a_is_name T.d_is_name ["thing"] spName) :
    FnOk P w K mg base CX0 (k + 7) T.a_different T.d_different ["words"] (spDiff K) := by
  refine T.F_different.ok sc_different (fun vs H Q E h => ?_) (fun cdv A outer s H vs Q E hr h => ?_)
  · obtain ⟨G, M, p, ws, rfl, _⟩ := h
    rfl
  · obtain ⟨G, M, p, ws, rfl, S, hp, sm, fr, q⟩ := h
    refine ⟨_, (pss_cons (ps_for PassesOwn.never rfl (pi_or (pi_enum (by rfl) T.m_enumerate (pa_cons (xv 0) pa_nil)) (pi_enumT (by rfl) T.m_enumerate (pa_cons (xv 0) pa_nil))) (pg_tupK K 2 (pgs_cons (pg_name (i := 1) sc_different.nd rfl (.inl rfl)) (pgs_cons (pg_name (i := 2) sc_different.nd rfl (.inl rfl)) pgs_nil)))
      (pss_one (xs_if (PW.pt (xw_or (pt_not (xt_truK K (pe_call G_is_name (hr.mono (by omega)) (by rfl) T.g_is_name T.F_is_name.kp T.b_is_name .nil pass0 (pa_cons (xv 2) pa_nil)))) (pw_or1 (xt_cmp (in_seqK K) (xv 2) (pe_slice (sl_mixK K) (xv 0) po_none (po_some (xv 1))) (by rfl)))))
      (pss_one (ps_ret pe_bl))
      pss_nil)))
      (pss_one (ps_ret pe_bl))), ?_⟩
    have hd : ∀ σ H', (∃ (y1 y2 : Option V) (G' : Hp), σ = [some (.ref p), y1, y2] ∧ Same G G' ∧ Sep G' M H') → Q (.bl true) H' := fun σ H' h => by
      obtain ⟨y2, y3, G', rfl, s', S'⟩ := h
      exact q _ _ s' S'
    have cut : ∀ (n : Nat), n ≤ ws.length → cutV (ws.map V.str) none (some (n : Int)) = (ws.take n).map V.str := fun n h => by rw [cutK_to _ _ (by rw [List.length_map]; omega), List.map_take]
    rcases hp with hp | hp
    · refine .inl ⟨p, _, rfl, S.l hp, for_enum (xs := ws.map V.str) (fun pre σ H' => ∃ (y1 y2 : Option V) (G' : Hp), σ = [some (.ref p), y1, y2] ∧ Same G G' ∧ Sep G' M H') ⟨_, _, G, rfl, Same.refl _, S⟩ (fun pre σ H' h => ?_) (fun pre x post σ H' t exs h nt => ?_) hd⟩
      · obtain ⟨_, _, G', _, s', S'⟩ := h
        exact S'.l (same_l s' hp)
      · obtain ⟨y2, y3, G', rfl, s', S'⟩ := h
        have hget : (ws.map V.str)[pre.length]? = some x := by rw [exs]; simp
        rw [List.getElem?_map] at hget
        obtain ⟨z, hz, rfl⟩ := Option.map_eq_some_iff.mp hget
        have hl := (List.getElem?_eq_some_iff.mp hz).1
        have S1 := S'.newG (o := .tup [.int (pre.length : Nat), .str z]) nt
        have s1 := s'.trans (S'.grow (o := .tup [.int (pre.length : Nat), .str z]) nt)
        refine ⟨_, M, z, rfl, S1, fr.lt z (List.mem_of_getElem? hz), fun G2 H2 s2 S2 => ⟨ff, fun _ => ?_⟩⟩
        refine ⟨_, rfl, Or.inl ⟨p, _, rfl, S2.l (same_l (s1.trans s2) hp), fun t3 nt3 => ⟨t3, _, rfl, .inl (SqL.of upd_same), rfl, ?_, ?_, ?_⟩⟩⟩
        · show (cutV (ws.map V.str) none (some ((pre.length : Nat) : Int))).all flatV = true
          rw [cut _ (by omega)]
          exact strs_flat _
        · intro e
          have e2 : inV (.str z) (cutV (ws.map V.str) none (some ((pre.length : Nat) : Int))) = true := e
          rw [cut _ (by omega), inV_str, decide_eq_false (nd_take fr.nd hz)] at e2
          cases e2
        · intro _
          exact ⟨_, _, _, rfl, (s1.trans s2).trans (S2.grow nt3), S2.newG nt3⟩
    · refine .inr ⟨p, _, rfl, S.t hp, for_enumT (xs := ws.map V.str) (fun k σ H' => ∃ (y1 y2 : Option V) (G' : Hp), σ = [some (.ref p), y1, y2] ∧ Same G G' ∧ Sep G' M H') ⟨_, _, G, rfl, Same.refl _, S⟩ (fun pre σ H' h => ?_) (fun i x σ H' t hget h nt => ?_) hd⟩
      · obtain ⟨_, _, G', _, s', S'⟩ := h
        exact S'.t (same_t s' hp)
      · obtain ⟨y2, y3, G', rfl, s', S'⟩ := h
        rw [List.getElem?_map] at hget
        obtain ⟨z, hz, rfl⟩ := Option.map_eq_some_iff.mp hget
        have hl := (List.getElem?_eq_some_iff.mp hz).1
        have S1 := S'.newG (o := .tup [.int (i : Nat), .str z]) nt
        have s1 := s'.trans (S'.grow (o := .tup [.int (i : Nat), .str z]) nt)
        refine ⟨_, M, z, rfl, S1, fr.lt z (List.mem_of_getElem? hz), fun G2 H2 s2 S2 => ⟨ff, fun _ => ?_⟩⟩
        have ec := cut i (by omega)
        have e2 : inV (.str z) ((ws.take i).map V.str) = false := by rw [inV_str, decide_eq_false (nd_take fr.nd hz)]
        refine ⟨_, rfl, Or.inr ⟨p, _, rfl, S2.t (same_t (s1.trans s2) hp), fun hw => ?_, fun _ t3 nt3 => ?_⟩⟩
        · have e3 : HT.sIx (ws.map V.str).length (ws.map V.str).length (some (i : Int)) = (ws.map V.str).length := hw.2
          rw [HT.sIx_nat, List.length_map] at e3
          omega
        · refine ⟨t3, _, rfl, .inr (SqT.of upd_same), rfl, ?_, ?_, ?_⟩
          · show (cutV (ws.map V.str) none (some (i : Int))).all flatV = true
            rw [ec]
            exact strs_flat _
          · intro e
            have e3 : inV (.str z) (cutV (ws.map V.str) none (some (i : Int))) = true := e
            rw [ec, e2] at e3
            cases e3
          · intro _
            exact ⟨_, _, _, rfl, (s1.trans s2).trans (S2.grow nt3), S2.newG nt3⟩
def spTold (K : PySem.W.Frag) : Sp := fun vs H Q _ => ∃ (G : Hp) (M : List (Addr × HO)) (v : V) (e : Addr) (rs : List (Str × Int × Int)) (m : Nat) (es : List Str), vs = [v, .int (m : Nat), .ref e] ∧ Sep G M H ∧ Dp K G v (.tuple (rs.map d3)) ∧ SqL K G e (es.map V.str) ∧ rs.length ≤ m ∧ rs.length ≤ 200 ∧
  Frs (rs.map (·.1)) es ∧ (∀ r ∈ rs, 1 ≤ r.2.1 ∧ r.2.1 ≤ 4 ∧ 0 ≤ r.2.2 ∧ r.2.2 < r.2.1) ∧ ∀ (G' H' : Hp), Same G G' → Sep G' M H' → Q (.bl true) H'
theorem ok_good_told (T : Top K mg w) {k : Nat} (G_good_rows : FnOk P w K mg base CX0 (k + 7) T.a_good_rows T.d_good_rows ["rows", "most", "size"] (spGr K)) (G_fresh : FnOk P w K mg base CX0 (k + 7) T.a_fresh T.d_fresh ["names", "earlier"] (spFresh K))
    (G_is_number : FnOk P w K mg base CX0 (k + 7) T.a_is_number T.d_is_number ["thing", "low", "high"] spNumberIn) :
    FnOk P w K mg base CX0 (k + 8) T.a_good_told T.d_good_told ["rows", "most", "earlier"] (spTold K) := by
  refine T.F_good_told.ok sc_good_told (fun vs H Q E h => ?_) (fun cdv A outer s H vs Q E hr h => ?_)
  · obtain ⟨G, M, v, e, rs, m, es, rfl, _⟩ := h
    rfl
  · obtain ⟨G, M, v, e, rs, m, es, rfl, S, hv, he, lm, sm, fr, hb, q⟩ := h
    refine ⟨_, (pss_cons (xs_if (PW.pt (xw_or (pt_not (xt_truK K (pe_call G_good_rows (hr.mono (by omega)) (by rfl) T.g_good_rows T.F_good_rows.kp T.b_good_rows .nil pass0 (pa_cons (xv 0) (pa_cons (xv 1) (pa_cons pe_int pa_nil)))))) (pw_or1 (pt_not (xt_truK K (pe_call G_fresh (hr.mono (by omega)) (by rfl) T.g_fresh T.F_fresh.kp T.b_fresh .nil pass0 (pa_cons (pe_lc (own := [("row", 6)]) (by rfl) sc_good_told.nd (pi_tupK K (xv 0)) (blkOk_by (N := ["rows", "most", "earlier", "name", "size", "start", "row"]) (sc := defScope s_good_told) (by decide +kernel)) (fun _ _ _ _ _ => (pg_name (i := 6) sc_good_told.nd rfl (.inl rfl))) (fun _ _ _ _ _ => pts_nil) (fun _ _ _ _ _ => (pe_ix (ix_k K) (xv 6) pe_int (fun _ _ => rfl)))) (pa_cons (xv 2) pa_nil))))))))
      (pss_one (ps_ret pe_bl))
      pss_nil)
      (pss_one (ps_ret (pe_callB (cr_allK K rfl) (by rfl) T.m_all (by decide +kernel) (pa_cons (pe_lc (own := [("name", 3), ("size", 4), ("start", 5)]) (by rfl) sc_good_told.nd (pi_tupK K (xv 0)) (blkOk_by (N := ["rows", "most", "earlier", "name", "size", "start", "row"]) (sc := defScope s_good_told) (by decide +kernel)) (fun _ _ _ _ _ => (pg_tupK K 3 (pgs_cons (pg_name (i := 3) sc_good_told.nd rfl (.inl rfl)) (pgs_cons (pg_name (i := 4) sc_good_told.nd rfl (.inl rfl)) (pgs_cons (pg_name (i := 5) sc_good_told.nd rfl (.inl rfl)) pgs_nil))))) (fun _ _ _ _ _ => pts_nil) (fun _ _ _ _ _ => (xe_and (pe_call G_is_number (hr.mono (by omega)) (by rfl) T.g_is_number T.F_is_number.kp T.b_is_number .nil pass0 (pa_cons (xv 4) (pa_cons pe_int (pa_cons pe_int pa_nil)))) (pe_one (pe_call G_is_number (hr.mono (by omega)) (by rfl) T.g_is_number T.F_is_number.kp T.b_is_number .nil pass0 (pa_cons (xv 5) (pa_cons pe_int (pa_cons (pe_op op_subY (xv 4) pe_int) pa_nil)))))))) pa_nil))))), ?_⟩
    refine ⟨G, M, v, rs.map d3, m, 3, rfl, S, hv, by rw [List.length_map]; exact lm, by rw [List.length_map]; exact sm, by decide, ?_, fun G1 H1 s1 S1 => ⟨ff, fun _ => ?_⟩⟩
    · intro d hd
      obtain ⟨r, _, rfl⟩ := List.mem_map.mp hd
      exact ⟨_, rfl, rfl⟩
    · have hv1 := dp_same s1 hv
      obtain ⟨p, xs, rfl, hp, hx⟩ := dp_tup hv1
      refine ⟨p, rfl, ⟨_, S1.t hp⟩, fun D nD => lc_dpT S1 nD hp hx (rs.map fun r => .str r.1) (by simp) (by rw [List.length_map]; omega) (fun i x e d G2 H2 ws R he hd hxe s2 S2 hR => ?_) (fun G2 H2 ws s2 S2 hw => ?_)⟩
      · rw [List.getElem?_map] at he hd
        obtain ⟨r, hr1, rfl⟩ := Option.map_eq_some_iff.mp he
        rw [hr1] at hd
        cases hd
        obtain ⟨a, ys, rfl, ha, hy⟩ := dp_tup hxe
        obtain ⟨y1, r1, rfl, hy1, _⟩ := dpa_cons hy
        exact ⟨rfl, _, _, .inr (S2.t ha), at0, hR _ G2 H2 (Same.refl _) S2 hy1⟩
      · have ew : ws = (rs.map (·.1)).map V.str := dpa_strs (by rw [List.map_map]; exact hw)
        subst ew
        have S3 := S2.frz
        refine ⟨_, M, D, e, rs.map (·.1), es, rfl, S3, SqL.of upd_same, same_l ((s1.trans s2).trans S2.frzS) he, by rw [List.length_map]; exact sm, fr, fun G4 H4 s4 S4 => ⟨ff, fun _ => ?_⟩⟩
        have s5 := (s2.trans S2.frzS).trans s4
        refine ⟨p, rfl, ⟨_, S4.t (same_t s5 hp)⟩, fun D2 nD2 => lc_dpT S4 nD2 (same_t s5 hp) (dpa_same s5 hx) (List.replicate rs.length (.bool true)) (by simp) (by rw [List.length_map]; omega) (fun i x e d G2 H2 ws R he hd hxe s2 S2 hR => ?_) (fun G5 H5 ws s6 S6 hw => ?_)⟩
        · rw [List.getElem?_map] at he
          obtain ⟨r, hr1, rfl⟩ := Option.map_eq_some_iff.mp he
          rw [rep_get hd] at hR
          obtain ⟨b1, b2, b3, b4⟩ := hb r (List.mem_of_getElem? hr1)
          obtain ⟨a, ys, rfl, ha, hy⟩ := dp_tup hxe
          obtain ⟨y1, r1, rfl, hy1, hy'⟩ := dpa_cons hy
          obtain ⟨y2, r2, rfl, hy2, hy''⟩ := dpa_cons hy'
          obtain ⟨y3, r3, rfl, hy3, hy4⟩ := dpa_cons hy''
          obtain rfl := dpa_nil hy4
          obtain rfl := dp_int hy2
          obtain rfl := dp_int hy3
          refine ⟨a, _, rfl, S2.t ha, rfl, ?_⟩
          refine ⟨_, _, rfl, _, _, rfl, _, _, rfl, rfl, rfl, _, _, _, rfl, b1, b2, fun _ => ⟨_, _, _, rfl, b3, by omega, hR _ G2 H2 (Same.refl _) S2 (.bl true)⟩, tt⟩
        · rw [dpa_yes hw] at S6
          refine ⟨D2, List.replicate rs.length true, rfl, SqL.of S6.hd, ?_⟩
          rw [all_yes]
          exact q _ _ ((s1.trans s5).trans s6) S6.drop

end
end K57
set_option Elab.async false
set_option linter.all false
set_option maxRecDepth 100000
set_option maxHeartbeats 4000000
namespace K57
open PySem PySem.Spec PyProof.Rows L2 XL
section
variable {P : Program} {w : World} {K : PySem.W.Frag} {mg : Str → Option Value} {base : Heap}
/-! ### a menu of good rows -/
theorem dpa_ints {K : PySem.W.Frag} {G : Hp} : ∀ {ws : List V} {ns : List Int}, DpAll K G ws (ns.map PyData.int) → ws = ns.map V.int
  | _, [], h => dpa_nil h
  | _, n :: r, h => by
    obtain ⟨x, r', rfl, h1, h2⟩ := dpa_cons h
    rw [dp_int h1, dpa_ints h2]
    rfl
theorem rd_flat (xs : List Int) : (xs.map V.int).all flatV = true := by
  rw [List.all_eq_true]
  intro x hx
  obtain ⟨n, _, rfl⟩ := List.mem_map.mp hx
  rfl
theorem inV_int {x : Int} (xs : List Int) : inV (.int x) (xs.map V.int) = decide (x ∈ xs) := by
  unfold inV
  induction xs with
  | nil => rfl
  | cons y r ih =>
    rw [List.map_cons, List.any_cons, ih]
    show ((y == x) || decide (x ∈ r)) = decide (x ∈ y :: r)
    by_cases e : x = y
    · subst e; simp
    · have e2 : ¬ y = x := fun q => e q.symm
      simp [e, e2]
def spRow (K : PySem.W.Frag) : Sp := fun vs H Q _ => ∃ (G : Hp) (M : List (Addr × HO)) (r : Addr) (ns : List Int), vs = [.ref r] ∧ Sep G M H ∧ SqT K G r (ns.map V.int) ∧ (ns.length ≤ 5 ∧ ns.Nodup ∧ ∀ n ∈ ns, 0 ≤ n ∧ n ≤ 9) ∧ ∀ G' H', Same G G' → Sep G' M H' → Q .non H'
theorem ok_check_row (T : Top K mg w) {k : Nat} : FnOk P w K mg base CX0 (k + 1) T.a_check_row T.d_check_row ["row"] (spRow K) := by
  refine T.F_check_row.ok sc_check_row (fun vs H Q E h => ?_) (fun cdv A outer s H vs Q E hr h => ?_)
  · obtain ⟨G, M, r, ns, rfl, _⟩ := h
    rfl
  · obtain ⟨G, M, r, ns, rfl, S, hp, ⟨l5, nd, ro⟩, q⟩ := h
    refine ⟨_, (pss_cons (xs_if (PW.pt (xw_or (pt_not (xt_truK K (pe_callB (call_isK K) (by rfl) T.m_isinstance (by decide +kernel) (pa_cons (xv 0) (pa_cons (pe_bltn (v := .ty "tuple") (by rfl) T.m_tuple (by decide +kernel) rfl) pa_nil))))) (pw_or1 (xt_cmp op_gtY (pe_callB (cr_lenK K) (by rfl) T.m_len (by decide +kernel) (pa_cons (xv 0) pa_nil)) (xe_globI (by rfl) T.v_MOST_ITEMS) (nomark _)))))
      (pss_one ps_never)
      pss_nil)
      (pss_cons (ps_set (i := 1) sc_check_row.nd rfl (.inl rfl) (pe_lst pa_nil))
      (pss_one (ps_for PassesOwn.never rfl (pi_tupK K (xv 0)) (pg_name (i := 2) sc_check_row.nd rfl (.inl rfl))
      (pss_cons (xs_if (PW.pt (xw_or (pt_not (xt_truK K (pe_callB (call_isK K) (by rfl) T.m_isinstance (by decide +kernel) (pa_cons (xv 2) (pa_cons (pe_bltn (v := .ty "int") (by rfl) T.m_int (by decide +kernel) rfl) pa_nil))))) (pw_or1 (xt_truK K (pe_callB (call_isK K) (by rfl) T.m_isinstance (by decide +kernel) (pa_cons (xv 2) (pa_cons (pe_bltn (v := .ty "bool") (by rfl) T.m_bool (by decide +kernel) rfl) pa_nil)))))))
      (pss_one ps_never)
      pss_nil)
      (pss_cons (xs_if (PW.pt (xw_or (xt_cmp op_ltY (xv 2) pe_int (nomark _)) (xw_or (xt_cmp op_gtY (xv 2) pe_int (nomark _)) (pw_or1 (xt_cmp (in_seqK K) (xv 2) (xv 1) (by rfl))))))
      (pss_one ps_never)
      pss_nil)
      (pss_one (ps_expr (pe_bmK K PySem.F.plainAttrs_list PySem.F.slot_list_append PySem.F.type_list_append mt_append (xv 1) (pa_cons (xv 2) pa_nil)))))))))), ?_⟩
    have h1 := S.t hp
    refine ⟨_, _, _, _, true, rfl, .ty _, sqT_ty h1, kit_ty (by decide +kernel), ff, fun _ => ⟨_, .inr h1, fun e => ?_, fun _ => ?_⟩⟩
    · have z : (5 : Int) < ((ns.map V.int).length : Nat) := of_decide_eq_true e
      rw [List.length_map] at z
      omega
    · refine ⟨sz, fun L nL => ?_⟩
      have S1 := S.new (o := .lst []) nL
      refine ⟨r, rfl, ⟨_, S1.t hp⟩, for_tup (xs := ns.map V.int) (fun i σ H' => ∃ y2, σ = [some (.ref r), some (.ref L), y2] ∧ Sep G ((L, .lst ((ns.take i).map V.int)) :: M) H') ⟨_, rfl, S1⟩ (fun i σ H' _ h => ?_) (fun i x σ H' hx h => ?_) (fun σ H' h => ?_)⟩
      · obtain ⟨_, _, S2⟩ := h
        exact S2.t hp
      · obtain ⟨y2, rfl, S2⟩ := h
        rw [List.getElem?_map] at hx
        obtain ⟨n, hn, rfl⟩ := Option.map_eq_some_iff.mp hx
        have hnm : n ∈ ns := List.mem_of_getElem? hn
        have hnl := ro n hnm
        have hni : n ∉ ns.take i := by
          intro hm
          have nd := nd
          rw [(take_pre hn).1, List.nodup_append] at nd
          exact nd.2.2 n hm n (by simp) rfl
        refine ⟨_, _, _, _, true, rfl, .ty _, .base (.int _), kit_ty (by decide +kernel), ff, fun _ => ⟨_, _, _, _, false, rfl, .ty _, .base (.int _), kit_ty (by decide +kernel), ff, fun _ => ?_⟩⟩
        refine ⟨fun e => absurd (of_decide_eq_true e) (by omega), fun _ => ⟨fun e => absurd (of_decide_eq_true e) (by omega), fun _ => ⟨L, _, rfl, .inl (SqL.of S2.hd), rfl, rd_flat _, fun e => ?_, fun _ => ?_⟩⟩⟩
        · have e2 : inV (.int n) ((ns.take i).map V.int) = true := e
          rw [inV_int] at e2
          exact absurd (of_decide_eq_true e2) hni
        · refine ⟨.inl ⟨rfl, _, SqL.of S2.hd⟩, L, _, _, rfl, rfl, S2.hd, ?_, ?_⟩
          · rw [List.length_map, List.length_take]
            exact smallL (by omega)
          · refine ⟨_, rfl, ?_⟩
            rw [XL.take_snoc hn, List.map_append]
            exact S2.set
      · obtain ⟨y2, rfl, S2⟩ := h
        exact q _ _ (Same.refl _) S2.drop
def spMenu (K : PySem.W.Frag) : Sp := fun vs H Q _ => ∃ (G : Hp) (M : List (Addr × HO)) (v : V) (m : PyData), vs = [v] ∧ Sep G M H ∧ Dp K G v m ∧ GdM m ∧ ∀ G' H', Same G G' → Sep G' M H' → Q (.bl true) H'
theorem ok_good_menu (T : Top K mg w) {k : Nat} (G_check_row : FnOk P w K mg base CX0 (k + 1) T.a_check_row T.d_check_row ["row"] (spRow K)) :
    FnOk P w K mg base CX0 (k + 7) T.a_good_menu T.d_good_menu ["menu"] (spMenu K) := by
  refine T.F_good_menu.ok sc_good_menu (fun vs H Q E h => ?_) (fun cdv A outer s H vs Q E hr h => ?_)
  · obtain ⟨G, M, v, m, rfl, _⟩ := h
    rfl
  · obtain ⟨G, M, v, m, rfl, S, hv, ⟨rs, rfl, l1, l4, hrs⟩, q⟩ := h
    obtain ⟨p, xs, rfl, hp, hx'⟩ := dp_tup hv
    have xl := dpa_len hx'
    rw [List.length_map] at xl
    refine ⟨_, (pss_cons (xs_if (PW.pt (xw_or (pt_not (xt_truK K (pe_callB (call_isK K) (by rfl) T.m_isinstance (by decide +kernel) (pa_cons (xv 0) (pa_cons (pe_bltn (v := .ty "tuple") (by rfl) T.m_tuple (by decide +kernel) rfl) pa_nil))))) (pw_or1 (pt_not (xt_chain op_leY op_leY pe_int (pe_callB (cr_lenK K) (by rfl) T.m_len (by decide +kernel) (pa_cons (xv 0) pa_nil)) pe_int)))))
      (pss_one (ps_ret pe_bl))
      pss_nil)
      (pss_cons (ps_for PassesOwn.never rfl (pi_tupK K (xv 0)) (pg_name (i := 1) sc_good_menu.nd rfl (.inl rfl))
      (pss_one (ps_try_thru0 (pss_one (ps_expr (pe_call G_check_row (hr.mono (by omega)) (by rfl) T.g_check_row T.F_check_row.kp T.b_check_row .nil pass0 (pa_cons (xv 1) pa_nil)))))))
      (pss_one (ps_ret pe_bl)))), ?_⟩
    refine ⟨_, _, _, _, true, rfl, .ty _, sqT_ty (S.t hp), kit_ty (by decide +kernel), ff, fun _ => ?_⟩
    refine ⟨_, .inr (S.t hp), ⟨fun _ => ⟨fun e => ?_, fun _ => ?_⟩, fun e => ?_⟩⟩
    · have e2 : (!decide (((xs.length : Nat) : Int) ≤ 4)) = true := e
      rw [decide_eq_true (show ((xs.length : Nat) : Int) ≤ 4 by omega)] at e2
      cases e2
    · refine ⟨p, rfl, ⟨_, S.t hp⟩, for_tup (xs := xs) (fun i σ H' => ∃ (y1 : Option V) (G' : Hp), σ = [some (.ref p), y1] ∧ Same G G' ∧ Sep G' M H') ⟨_, G, rfl, Same.refl _, S⟩ (fun i σ H' _ h => ?_) (fun i x σ H' hx h => ?_) (fun σ H' h => ?_)⟩
      · obtain ⟨_, G', _, s', S'⟩ := h
        exact S'.t (same_t s' hp)
      · obtain ⟨y1, G', rfl, s', S'⟩ := h
        obtain ⟨d, hd, hxd⟩ := dpa_get hx' hx
        rw [List.getElem?_map] at hd
        obtain ⟨r, hr1, rfl⟩ := Option.map_eq_some_iff.mp hd
        obtain ⟨a, ys, rfl, ha, hy⟩ := dp_tup (dp_same s' hxd)
        obtain rfl := dpa_ints hy
        exact ⟨G', M, a, r, rfl, S', ha, hrs r (List.mem_of_getElem? hr1), fun G2 H2 s2 S2 => ⟨_, G2, rfl, s'.trans s2, S2⟩⟩
      · obtain ⟨y1, G', rfl, s', S'⟩ := h
        exact q _ _ s' S'
    · have e2 : decide ((1 : Int) ≤ ((xs.length : Nat) : Int)) = false := e
      rw [decide_eq_true (show (1 : Int) ≤ ((xs.length : Nat) : Int) by omega)] at e2
      cases e2

end
end K57
set_option Elab.async false
set_option linter.all false
set_option maxRecDepth 100000
set_option maxHeartbeats 4000000
namespace K57
open PySem PySem.Spec PyProof.Rows L2 XL
section
variable {P : Program} {w : World} {K : PySem.W.Frag} {mg : Str → Option Value} {base : Heap}
/-! ### part_shapes, numbered, levels -/
def spParts (K : PySem.W.Frag) : Sp := fun vs H Q _ => ∃ (G : Hp) (M : List (Addr × HO)) (v : V) (s : Sh), vs = [v] ∧ Sep G M H ∧ Dp K G v (toD s) ∧ ∀ (v' : V) (G' H' : Hp), Same G G' → Dp K G' v' (.tuple ((parts s).map toD)) → Sep G' M H' → Q v' H'
theorem word_row {s : Sh} (e : word s = "row") : ∃ ps, s = .line false ps := by
  cases s with
  | text f => exact absurd (show ("text" : Str) = "row" from e) (by decide +kernel)
  | button f => exact absurd (show ("button" : Str) = "row" from e) (by decide +kernel)
  | put f g => exact absurd (show ("put" : Str) = "row" from e) (by decide +kernel)
  | each a1 a2 a3 a4 a5 => exact absurd (show ("each" : Str) = "row" from e) (by decide +kernel)
  | wen f a b => exact absurd (show ("when" : Str) = "row" from e) (by decide +kernel)
  | line c ps =>
    cases c with
    | false => exact ⟨ps, rfl⟩
    | true => exact absurd (show ("col" : Str) = "row" from e) (by decide +kernel)
theorem word_col {s : Sh} (e : word s = "col") : ∃ ps, s = .line true ps := by
  cases s with
  | text f => exact absurd (show ("text" : Str) = "col" from e) (by decide +kernel)
  | button f => exact absurd (show ("button" : Str) = "col" from e) (by decide +kernel)
  | put f g => exact absurd (show ("put" : Str) = "col" from e) (by decide +kernel)
  | each a1 a2 a3 a4 a5 => exact absurd (show ("each" : Str) = "col" from e) (by decide +kernel)
  | wen f a b => exact absurd (show ("when" : Str) = "col" from e) (by decide +kernel)
  | line c ps =>
    cases c with
    | true => exact ⟨ps, rfl⟩
    | false => exact absurd (show ("row" : Str) = "col" from e) (by decide +kernel)
theorem word_when {s : Sh} (e : word s = "when") : ∃ f a b, s = .wen f a b := by
  cases s with
  | text f => exact absurd (show ("text" : Str) = "when" from e) (by decide +kernel)
  | button f => exact absurd (show ("button" : Str) = "when" from e) (by decide +kernel)
  | put f g => exact absurd (show ("put" : Str) = "when" from e) (by decide +kernel)
  | each a1 a2 a3 a4 a5 => exact absurd (show ("each" : Str) = "when" from e) (by decide +kernel)
  | wen f a b => exact ⟨f, a, b, rfl⟩
  | line c ps =>
    cases c with
    | true => exact absurd (show ("col" : Str) = "when" from e) (by decide +kernel)
    | false => exact absurd (show ("row" : Str) = "when" from e) (by decide +kernel)
theorem word_text {s : Sh} (e : word s = "text") : ∃ f, s = .text f := by
  cases s with
  | button f => exact absurd (show ("button" : Str) = "text" from e) (by decide +kernel)
  | put f g => exact absurd (show ("put" : Str) = "text" from e) (by decide +kernel)
  | each a1 a2 a3 a4 a5 => exact absurd (show ("each" : Str) = "text" from e) (by decide +kernel)
  | wen f a b => exact absurd (show ("when" : Str) = "text" from e) (by decide +kernel)
  | text f => exact ⟨f, rfl⟩
  | line c ps =>
    cases c with
    | true => exact absurd (show ("col" : Str) = "text" from e) (by decide +kernel)
    | false => exact absurd (show ("row" : Str) = "text" from e) (by decide +kernel)
theorem word_button {s : Sh} (e : word s = "button") : ∃ f, s = .button f := by
  cases s with
  | text f => exact absurd (show ("text" : Str) = "button" from e) (by decide +kernel)
  | put f g => exact absurd (show ("put" : Str) = "button" from e) (by decide +kernel)
  | each a1 a2 a3 a4 a5 => exact absurd (show ("each" : Str) = "button" from e) (by decide +kernel)
  | wen f a b => exact absurd (show ("when" : Str) = "button" from e) (by decide +kernel)
  | button f => exact ⟨f, rfl⟩
  | line c ps =>
    cases c with
    | true => exact absurd (show ("col" : Str) = "button" from e) (by decide +kernel)
    | false => exact absurd (show ("row" : Str) = "button" from e) (by decide +kernel)
theorem word_put {s : Sh} (e : word s = "put") : ∃ f g, s = .put f g := by
  cases s with
  | text f => exact absurd (show ("text" : Str) = "put" from e) (by decide +kernel)
  | button f => exact absurd (show ("button" : Str) = "put" from e) (by decide +kernel)
  | each a1 a2 a3 a4 a5 => exact absurd (show ("each" : Str) = "put" from e) (by decide +kernel)
  | wen f a b => exact absurd (show ("when" : Str) = "put" from e) (by decide +kernel)
  | put f g => exact ⟨f, g, rfl⟩
  | line c ps =>
    cases c with
    | true => exact absurd (show ("col" : Str) = "put" from e) (by decide +kernel)
    | false => exact absurd (show ("row" : Str) = "put" from e) (by decide +kernel)
theorem word_each {s : Sh} (e : word s = "each") : ∃ a1 a2 a3 a4 a5, s = .each a1 a2 a3 a4 a5 := by
  cases s with
  | text f => exact absurd (show ("text" : Str) = "each" from e) (by decide +kernel)
  | button f => exact absurd (show ("button" : Str) = "each" from e) (by decide +kernel)
  | put f g => exact absurd (show ("put" : Str) = "each" from e) (by decide +kernel)
  | wen f a b => exact absurd (show ("when" : Str) = "each" from e) (by decide +kernel)
  | each a1 a2 a3 a4 a5 => exact ⟨a1, a2, a3, a4, a5, rfl⟩
  | line c ps =>
    cases c with
    | true => exact absurd (show ("col" : Str) = "each" from e) (by decide +kernel)
    | false => exact absurd (show ("row" : Str) = "each" from e) (by decide +kernel)
theorem line_word {c : Bool} : lword c = "row" ∨ lword c = "col" := by cases c <;> simp [lword]
theorem ok_part_shapes (T : Top K mg w) {k : Nat} : FnOk P w K mg base CX0 (k + 1) T.a_part_shapes T.d_part_shapes ["shape"] (spParts K) := by
  refine T.F_part_shapes.ok sc_part_shapes (fun vs H Q E h => ?_) (fun cdv A outer s H vs Q E hr h => ?_)
  · obtain ⟨G, M, v, sh, rfl, _⟩ := h
    rfl
  · obtain ⟨G, M, v, sh, rfl, S, hv, q⟩ := h
    refine ⟨_, (pss_cons (xs_if (PW.pt (xw_or (xt_cmp (op_eqLK K hr.u190) (pe_ix (ix_k K) (xv 0) pe_int (fun _ _ => rfl)) pe_str (nomark _)) (pw_or1 (xt_cmp (op_eqLK K hr.u190) (pe_ix (ix_k K) (xv 0) pe_int (fun _ _ => rfl)) pe_str (nomark _)))))
      (pss_one (ps_ret (pe_ix (ix_k K) (xv 0) pe_int (fun _ _ => rfl))))
      pss_nil)
      (pss_cons (xs_if (xt_cmp (op_eqLK K hr.u190) (pe_ix (ix_k K) (xv 0) pe_int (fun _ _ => rfl)) pe_str (nomark _))
      (pss_one (ps_ret (pe_tup (pa_cons (pe_ix (ix_k K) (xv 0) pe_int (fun _ _ => rfl)) (pa_cons (pe_ix (ix_k K) (xv 0) pe_int (fun _ _ => rfl)) pa_nil)))))
      pss_nil)
      (pss_one (ps_ret (pe_tup pa_nil))))), ?_⟩
    obtain ⟨a, rest, rfl, ha, hr'⟩ := shp_at hv
    have h0 : atI (V.str (word sh) :: rest) 0 = some (.str (word sh)) := atI_nat (j := 0) rfl
    have isL : ∀ c ps, sh = .line c ps → (∃ xs v, (SqL K H a xs ∨ SqT K H a xs) ∧ atI xs 1 = some v ∧ Q v H) := fun c ps e => by
      subst e
      obtain ⟨x, r, rfl, h1, h2⟩ := dpa_cons hr'
      exact ⟨_, x, .inr (S.t ha), atI_nat (j := 1) rfl, q x G H (Same.refl _) h1 S⟩
    have noL : (∀ c ps, sh ≠ .line c ps) ∨ ∃ c ps, sh = .line c ps := by
      cases sh with
      | line c ps => exact .inr ⟨c, ps, rfl⟩
      | _ => exact .inl (fun _ _ h => nomatch h)
    have isW : ∀ f x y, sh = .wen f x y → (word sh = "when" ∧ ∃ v1 v2 v3, rest = [v1, v2, v3] ∧ Dp K G v2 (toD x) ∧ Dp K G v3 (toD y)) := fun f x y e => by
      subst e
      obtain ⟨x1, r1, rfl, h1, h2⟩ := dpa_cons hr'
      obtain ⟨x2, r2, rfl, h3, h4⟩ := dpa_cons h2
      obtain ⟨x3, r3, rfl, h5, h6⟩ := dpa_cons h4
      rw [dpa_nil h6]
      exact ⟨rfl, _, _, _, rfl, h3, h5⟩
    refine ⟨_, _, .inr (S.t ha), h0, fun e1 => ⟨fun _ => ?_, tt⟩, fun e1 => ⟨_, _, .inr (S.t ha), h0, fun e2 => ?_, fun e2 => ?_⟩⟩
    · obtain ⟨ps, e⟩ := word_row (of_decide_eq_true e1)
      exact isL _ ps e
    · obtain ⟨ps, e⟩ := word_col (of_decide_eq_true e2)
      exact isL _ ps e
    · have nl : ∀ c ps, sh ≠ .line c ps := fun c ps e => by
        subst e
        rcases line_word (c := c) with z | z
        · exact of_decide_eq_false e1 z
        · exact of_decide_eq_false e2 z
      refine ⟨_, _, .inr (S.t ha), h0, fun e3 => ?_, fun e3 => ⟨sz, fun p np => ?_⟩⟩
      · have := word_when (of_decide_eq_true e3)
        obtain ⟨f, x, y, e⟩ := this
        obtain ⟨_, v1, v2, v3, rfl, d2, d3⟩ := isW f x y e
        subst e
        refine ⟨_, _, .inr (S.t ha), atI_nat (j := 2) rfl, _, _, .inr (S.t ha), atI_nat (j := 3) rfl, sz, fun p np => ?_⟩
        obtain ⟨G1, s1, S1, h1⟩ := Sep.mk (o := .tup [v2, v3]) S np
        exact q _ G1 _ s1 (.tup (SqT.of h1) (.cons (dp_same s1 d2) (.cons (dp_same s1 d3) .nil))) S1
      · obtain ⟨G1, s1, S1, h1⟩ := Sep.mk (o := .tup []) S np
        have e0 : parts sh = [] := by
          cases sh with
          | line c ps => exact absurd rfl (nl c ps)
          | wen f x y => exact absurd rfl (of_decide_eq_false e3)
          | _ => rfl
        refine q _ G1 _ s1 ?_ S1
        rw [e0]
        exact .tup (SqT.of h1) .nil
theorem map_get {ps : List Sh} {i : Nat} {d : PyData} (h : (ps.map toD)[i]? = some d) : ∃ p, ps[i]? = some p ∧ d = toD p := by
  rw [List.getElem?_map] at h
  obtain ⟨p, h1, h2⟩ := Option.map_eq_some_iff.mp h
  exact ⟨p, h1, h2.symm⟩
def spNumb (K : PySem.W.Frag) (n : Nat) : Sp := fun vs H Q _ => ∃ (G : Hp) (M : List (Addr × HO)) (v : V) (s : Sh), vs = [v] ∧ Sep G M H ∧ Dp K G v (toD s) ∧ hgt s ≤ n ∧ cnt s ≤ 1000 ∧
  ∀ (v' : V) (G' H' : Hp), Same G G' → Dp K G' v' (.tuple ((numb s).map toD)) → Sep G' M H' → Q v' H'
theorem numbs_take_le {ps : List Sh} (i : Nat) : (numbs (ps.take i)).length ≤ (numbs ps).length := by
  have e : numbs ps = numbs (ps.take i) ++ numbs (ps.drop i) := by rw [← numbs_app, List.take_append_drop]
  rw [e, List.length_append]
  omega
theorem ok_numbered (T : Top K mg w) (G_part_shapes : FnOk P w K mg base CX0 1 T.a_part_shapes T.d_part_shapes ["shape"] (spParts K)) : ∀ n, FnOk P w K mg base CX0 (n + 2) T.a_numbered T.d_numbered ["shape"] (spNumb K n) := by
  intro n
  induction n with
  | zero =>
    refine T.F_numbered.ok sc_numbered (fun vs H Q E h => ?_) (fun cdv A outer s H vs Q E hr h => ?_)
    · obtain ⟨G, M, v, sh, rfl, _⟩ := h
      rfl
    · obtain ⟨G, M, v, sh, rfl, S, hv, hh, _⟩ := h
      rw [hgt_eq] at hh
      omega
  | succ n G_numbered =>
    refine T.F_numbered.ok sc_numbered (fun vs H Q E h => ?_) (fun cdv A outer s H vs Q E hr h => ?_)
    · obtain ⟨G, M, v, sh, rfl, _⟩ := h
      rfl
    · obtain ⟨G, M, v, sh, rfl, S, hv, hh, hc, q⟩ := h
      refine ⟨_, (pss_cons (ps_set (i := 1) sc_numbered.nd rfl (.inl rfl) (pe_lst (pa_cons (xv 0) pa_nil)))
      (pss_cons (ps_for PassesOwn.never rfl (pi_tupK K (pe_call G_part_shapes (hr.mono (by omega)) (by rfl) T.g_part_shapes T.F_part_shapes.kp T.b_part_shapes .nil pass0 (pa_cons (xv 0) pa_nil))) (pg_name (i := 2) sc_numbered.nd rfl (.inl rfl))
      (pss_one (ps_expr (pe_bmK K PySem.F.plainAttrs_list PySem.F.slot_list_extend PySem.F.type_list_extend (mt_extT K) (xv 1) (pa_cons (pe_call G_numbered (hr.mono (by omega)) (by rfl) T.g_numbered T.F_numbered.kp T.b_numbered .nil pass0 (pa_cons (xv 2) pa_nil)) pa_nil)))))
      (pss_one (ps_ret (pe_callTy (call_tupleK K) (by rfl) T.m_tuple (by decide +kernel) (pa_cons (xv 1) pa_nil)))))), ?_⟩
      refine ⟨sz, fun L nL => ?_⟩
      have S1 := S.new (o := .lst [v]) nL
      refine ⟨G, _, v, sh, rfl, S1, hv, fun vp G2 H2 s2 hvp S2 => ?_⟩
      obtain ⟨pa, us, rfl, hpa, hus⟩ := dp_tup hvp
      have ce := cnt_eq sh
      refine ⟨pa, rfl, ⟨us, S2.t hpa⟩, for_tup (xs := us) (fun i σ H' => ∃ (y2 : Option V) (ws : List V) (G' : Hp), σ = [some v, some (.ref L), y2] ∧ Same G2 G' ∧ DpAll K G' ws ((sh :: numbs ((parts sh).take i)).map toD) ∧ Sep G' ((L, .lst ws) :: M) H')
        ⟨_, [v], G2, rfl, Same.refl _, dpa_one (dp_same s2 hv), S2⟩ (fun i σ H' _ h => ?_) (fun i u σ H' hu h => ?_) (fun σ H' h => ?_)⟩
      · obtain ⟨_, _, G', _, s', _, S'⟩ := h
        exact S'.t (same_t s' hpa)
      · obtain ⟨y2, ws, G3, rfl, s3, hws, S3⟩ := h
        obtain ⟨d, hd, hud⟩ := dpa_get hus hu
        obtain ⟨p, hp, rfl⟩ := map_get hd
        have hm := List.mem_of_getElem? hp
        have hg := hgt_part hm
        have wl := dpa_len hws
        have cl : cnt p ≤ (numbs (parts sh)).length := cnt_mem hm
        refine ⟨.inl ⟨rfl, _, SqL.of S3.hd⟩, G3, _, u, p, rfl, S3, dp_same s3 hud, by omega, by omega, fun v4 G4 H4 s4 hv4 S4 => ?_⟩
        obtain ⟨a4, us4, rfl, ha4, hus4⟩ := dp_tup hv4
        have ul := dpa_len hus4
        have tk : numbs ((parts sh).take (i + 1)) = numbs ((parts sh).take i) ++ numb p := by rw [take_snoc hp, numbs_app, numbs_one]
        have tl := numbs_take_le (ps := parts sh) (i + 1)
        rw [tk, List.length_append] at tl
        rw [List.length_map, List.length_cons] at wl
        rw [List.length_map] at ul
        refine ⟨L, a4, ws, us4, rfl, rfl, S4.hd, S4.t ha4, small (by omega), _, ws ++ us4, G4, rfl, s3.trans s4, ?_, S4.set⟩
        rw [tk, ← List.cons_append, List.map_append]
        exact dpa_app (dpa_same s4 hws) hus4
      · obtain ⟨y2, ws, G3, rfl, s3, hws, S3⟩ := h
        have ul := dpa_len hus
        rw [List.length_map] at ul
        rw [ul, List.take_length, ← numb_eq] at hws
        refine ⟨L, ws, rfl, .inl ⟨SqL.of S3.hd, fun t nt => ?_⟩⟩
        obtain ⟨G5, s5, S5, h5⟩ := Sep.mk (o := .tup ws) S3 nt
        exact q _ G5 _ (s2.trans (s3.trans s5)) (.tup (SqT.of h5) (dpa_same s5 hws)) S5.drop

/-! ### part_numbers -/
def pnums : Int → List Sh → List Int
  | _, [] => []
  | n, s :: r => n :: pnums (n + (cnt s : Nat)) r
def pnext : Int → List Sh → Int
  | n, [] => n
  | n, s :: r => pnext (n + (cnt s : Nat)) r
theorem pnums_app : ∀ (a : List Sh) (n : Int) (b : List Sh), pnums n (a ++ b) = pnums n a ++ pnums (pnext n a) b
  | [], _, _ => rfl
  | s :: r, n, b => by simp only [List.cons_append, pnums, pnext, pnums_app r]
theorem pnext_app : ∀ (a : List Sh) (n : Int) (b : List Sh), pnext n (a ++ b) = pnext (pnext n a) b
  | [], _, _ => rfl
  | s :: r, n, b => by simp only [List.cons_append, pnext, pnext_app r]
theorem pnums_len : ∀ (a : List Sh) (n : Int), (pnums n a).length = a.length
  | [], _ => rfl
  | s :: r, n => by simp only [pnums, List.length_cons, pnums_len r]
def intsD (ns : List Int) : PyData := .tuple (ns.map PyData.int)
theorem ints_of {K : PySem.W.Frag} {G : Hp} : ∀ ns : List Int, DpAll K G (ns.map V.int) (ns.map PyData.int)
  | [] => .nil
  | n :: r => .cons (.int n) (ints_of r)
def spPn (K : PySem.W.Frag) : Sp := fun vs H Q _ => ∃ (G : Hp) (M : List (Addr × HO)) (v : V) (s : Sh) (n : Int), vs = [v, .int n] ∧ Sep G M H ∧ Dp K G v (toD s) ∧ hgt s ≤ 6 ∧ cnt s ≤ 1000 ∧
  ∀ (v' : V) (G' H' : Hp), Same G G' → Dp K G' v' (intsD (pnums (n + 1) (parts s))) → Sep G' M H' → Q v' H'
theorem ok_part_numbers (T : Top K mg w) {k : Nat} (G_numbered : FnOk P w K mg base CX0 (k + 8) T.a_numbered T.d_numbered ["shape"] (spNumb K 6)) :
    FnOk P w K mg base CX0 (k + 9) T.a_part_numbers T.d_part_numbers ["shape", "number"] (spPn K) := by
  refine T.F_part_numbers.ok sc_part_numbers (fun vs H Q E h => ?_) (fun cdv A outer s H vs Q E hr h => ?_)
  · obtain ⟨G, M, v, sh, n, rfl, _⟩ := h
    rfl
  · obtain ⟨G, M, v, sh, n, rfl, S, hv, hh, hc, q⟩ := h
    refine ⟨_, (pss_cons (ps_set (i := 2) sc_part_numbers.nd rfl (.inl rfl) (pe_tup pa_nil))
      (xss_cut (xs_if (PW.pt (xw_or (xt_cmp (op_eqLK K hr.u190) (pe_ix (ix_k K) (xv 0) pe_int (fun _ _ => rfl)) pe_str (nomark _)) (pw_or1 (xt_cmp (op_eqLK K hr.u190) (pe_ix (ix_k K) (xv 0) pe_int (fun _ _ => rfl)) pe_str (nomark _)))))
      (pss_one (ps_set (i := 2) sc_part_numbers.nd rfl (.inl rfl) (pe_ix (ix_k K) (xv 0) pe_int (fun _ _ => rfl))))
      (pss_one (xs_if (xt_cmp (op_eqLK K hr.u190) (pe_ix (ix_k K) (xv 0) pe_int (fun _ _ => rfl)) pe_str (nomark _))
      (pss_one (ps_set (i := 2) sc_part_numbers.nd rfl (.inl rfl) (pe_slice (sl_tupAK K) (xv 0) (po_some pe_int) po_none)))
      pss_nil)))
      (pss_cons (ps_set (i := 3) sc_part_numbers.nd rfl (.inl rfl) (pe_lst pa_nil))
      (pss_cons (ps_set (i := 4) sc_part_numbers.nd rfl (.inl rfl) (pe_op op_addY (xv 1) pe_int))
      (pss_cons (ps_for PassesOwn.never rfl (pi_tupK K (xv 2)) (pg_name (i := 5) sc_part_numbers.nd rfl (.inl rfl))
      (pss_cons (ps_expr (pe_bmK K PySem.F.plainAttrs_list PySem.F.slot_list_append PySem.F.type_list_append mt_append (xv 3) (pa_cons (xv 4) pa_nil)))
      (pss_one (ps_aug (i := 4) sc_part_numbers.nd rfl (.inl rfl) (pe_callB (cr_lenK K) (by rfl) T.m_len (by decide +kernel) (pa_cons (pe_call G_numbered (hr.mono (by omega)) (by rfl) T.g_numbered T.F_numbered.kp T.b_numbered .nil pass0 (pa_cons (xv 5) pa_nil)) pa_nil)) ip_add))))
      (pss_one (ps_ret (pe_callTy (call_tupleK K) (by rfl) T.m_tuple (by decide +kernel) (pa_cons (xv 3) pa_nil))))))))), ?_⟩
    refine ⟨sz, fun t nt => ?_⟩
    obtain ⟨G1, s1, S1, dt⟩ := dp_mk (K := K) (xs := []) (ds := []) S nt .nil
    obtain ⟨a, rest, rfl, ha, hr'⟩ := shp_at (dp_same s1 hv)
    have h0 : atI (V.str (word sh) :: rest) 0 = some (.str (word sh)) := atI_nat (j := 0) rfl
    refine ⟨fun σ H' => ∃ (vp : V) (G' : Hp), σ = [some (.ref a), some (.int n), some vp, none, none, none] ∧ Same G G' ∧ Sep G' M H' ∧ Dp K G' vp (.tuple ((parts sh).map toD)), ?_, fun σ H' h => ?_⟩
    · have hA := S1.t ha
      cases sh with
      | text f =>
        change SqT K _ a (V.str ("text" : Str) :: _) at hA
        exact ⟨_, _, .inr hA, at0, fun e => wd e, fun _ => ⟨_, _, .inr hA, at0, fun e => wd e, fun _ => ⟨_, _, .inr hA, at0, fun e => wd e, fun _ => ⟨_, _, rfl, s1, S1, dt⟩⟩⟩⟩
      | button f =>
        change SqT K _ a (V.str ("button" : Str) :: _) at hA
        exact ⟨_, _, .inr hA, at0, fun e => wd e, fun _ => ⟨_, _, .inr hA, at0, fun e => wd e, fun _ => ⟨_, _, .inr hA, at0, fun e => wd e, fun _ => ⟨_, _, rfl, s1, S1, dt⟩⟩⟩⟩
      | put c f =>
        change SqT K _ a (V.str ("put" : Str) :: _) at hA
        exact ⟨_, _, .inr hA, at0, fun e => wd e, fun _ => ⟨_, _, .inr hA, at0, fun e => wd e, fun _ => ⟨_, _, .inr hA, at0, fun e => wd e, fun _ => ⟨_, _, rfl, s1, S1, dt⟩⟩⟩⟩
      | each t m k c f =>
        change SqT K _ a (V.str ("each" : Str) :: _) at hA
        exact ⟨_, _, .inr hA, at0, fun e => wd e, fun _ => ⟨_, _, .inr hA, at0, fun e => wd e, fun _ => ⟨_, _, .inr hA, at0, fun e => wd e, fun _ => ⟨_, _, rfl, s1, S1, dt⟩⟩⟩⟩
      | line c ps =>
        obtain ⟨x, r, rfl, h1, h2⟩ := dpa_cons hr'
        obtain rfl := dpa_nil h2
        cases c with
        | false =>
          change SqT K _ a (V.str ("row" : Str) :: _) at hA
          exact ⟨_, _, .inr hA, at0, fun _ => ⟨fun _ => ⟨_, _, .inr hA, atI_nat (j := 1) rfl, _, _, rfl, s1, S1, h1⟩, tt⟩, fun e => we e⟩
        | true =>
          change SqT K _ a (V.str ("col" : Str) :: _) at hA
          exact ⟨_, _, .inr hA, at0, fun e => wd e, fun _ => ⟨_, _, .inr hA, at0, fun _ => ⟨_, _, .inr hA, atI_nat (j := 1) rfl, _, _, rfl, s1, S1, h1⟩, fun e => we e⟩⟩
      | wen f x y =>
        obtain ⟨x1, r1, rfl, h1, h2⟩ := dpa_cons hr'
        obtain ⟨x2, r2, rfl, h3, h4⟩ := dpa_cons h2
        obtain ⟨x3, r3, rfl, h5, h6⟩ := dpa_cons h4
        obtain rfl := dpa_nil h6
        change SqT K _ a (V.str ("when" : Str) :: _) at hA
        refine ⟨_, _, .inr hA, at0, fun e => wd e, fun _ => ⟨_, _, .inr hA, at0, fun e => wd e, fun _ => ⟨_, _, .inr hA, at0, fun _ => ?_, fun e => we e⟩⟩⟩
        refine ⟨_, rfl, a, _, rfl, hA, fun hw => ?_, fun _ t2 nt2 => ?_⟩
        · have e3 : HT.sIx 4 0 (some (2 : Int)) = 0 := hw.1
          exact absurd e3 (by decide)
        · obtain ⟨G2, s2, S2, dt2⟩ := dp_mk (K := K) (xs := [x2, x3]) (ds := [toD x, toD y]) S1 nt2 (.cons h3 (.cons h5 .nil))
          exact ⟨_, _, rfl, s1.trans s2, S2, dt2⟩
    · obtain ⟨vp, G2, rfl, s2, S2, hvp⟩ := h
      obtain ⟨vpa, us, rfl, hp, hus⟩ := dp_tup hvp
      have ul := dpa_len hus
      rw [List.length_map] at ul
      refine ⟨sz, fun L nL => ?_⟩
      have S3 := S2.new (o := .lst []) nL
      refine ⟨vpa, rfl, ⟨us, S3.t hp⟩, for_tup (xs := us) (fun i σ H' => ∃ (y5 : Option V) (G' : Hp), σ = [some (.ref a), some (.int n), some (.ref vpa), some (.ref L), some (.int (pnext (n + 1) ((parts sh).take i))), y5] ∧ Same G2 G' ∧
        Sep G' ((L, .lst ((pnums (n + 1) ((parts sh).take i)).map V.int)) :: M) H') ⟨_, _, rfl, Same.refl _, S3⟩ (fun i σ H' _ h => ?_) (fun i x σ H' hx h => ?_) (fun σ H' h => ?_)⟩
      · obtain ⟨_, G3, _, s3, S4⟩ := h
        exact S4.t (same_t s3 hp)
      · obtain ⟨y5, G3, rfl, s3, S4⟩ := h
        obtain ⟨d, hd, hxd⟩ := dpa_get hus hx
        obtain ⟨r, hr1, rfl⟩ := map_get hd
        have hm := List.mem_of_getElem? hr1
        have hg := hgt_part hm
        have cm := cnt_mem hm
        have ce := cnt_eq sh
        have ml := many_le (parts sh)
        have il := (List.getElem?_eq_some_iff.mp hr1).1
        refine ⟨.inl ⟨rfl, _, SqL.of S4.hd⟩, L, _, _, rfl, rfl, S4.hd, ?_, ?_⟩
        · rw [List.length_map, pnums_len, List.length_take]
          exact smallL (by omega)
        · have S5 := S4.set (o' := .lst ((pnums (n + 1) ((parts sh).take i)).map V.int ++ [.int (pnext (n + 1) ((parts sh).take i))]))
          refine ⟨_, rfl, G3, _, x, r, rfl, S5, dp_same s3 hxd, by omega, by omega, fun v4 G4 H4 s4 hv4 S6 => ?_⟩
          obtain ⟨a4, us4, rfl, ha4, hus4⟩ := dp_tup hv4
          have u4 := dpa_len hus4
          rw [List.length_map] at u4
          refine ⟨_, .inr (S6.t ha4), ?_⟩
          refine ⟨_, _, rfl, rfl, some x, G4, ?_, s3.trans s4, ?_⟩
          · rw [XL.take_snoc hr1, pnext_app]
            show _ = [some (V.ref a), some (V.int n), some (V.ref vpa), some (V.ref L), some (V.int (pnext (n + 1) ((parts sh).take i) + ((numb r).length : Nat))), _]
            rw [← u4]
            rfl
          · rw [XL.take_snoc hr1, pnums_app, List.map_append]
            exact S6
      · obtain ⟨y5, G3, rfl, s3, S4⟩ := h
        rw [ul, List.take_length] at S4
        refine ⟨L, _, rfl, .inl ⟨SqL.of S4.hd, fun t nt => ?_⟩⟩
        obtain ⟨G5, s5, S5, h5⟩ := Sep.mk (o := .tup ((pnums (n + 1) (parts sh)).map V.int)) S4 nt
        exact q _ G5 _ ((s2.trans s3).trans s5) (.tup (SqT.of h5) (ints_of _)) S5.drop

end
end K57
set_option Elab.async false
set_option linter.all false
set_option maxRecDepth 100000
set_option maxHeartbeats 4000000
namespace K57
open PySem PySem.Spec PyProof.Rows L2 XL
section
variable {P : Program} {w : World} {K : PySem.W.Frag} {mg : Str → Option Value} {base : Heap}
/-! ### good shapes -/
theorem lt_item : Lt 1 8 "item" := ⟨by decide +kernel, by decide +kernel, by decide +kernel⟩
theorem lt_at : Lt 1 8 "at" := ⟨by decide +kernel, by decide +kernel, by decide +kernel⟩
theorem lt_ia : ∀ z ∈ (["item", "at"] : List Str), Lt 1 8 z := fun z hz => by
  simp only [List.mem_cons, List.not_mem_nil, or_false] at hz
  rcases hz with rfl | rfl
  · exact lt_item
  · exact lt_at
structure NL (ns : List Str) : Prop where
  lt : ∀ z ∈ ns, Lt 1 8 z
  len : ns.length ≤ 90
def spGc (K : PySem.W.Frag) : Sp := fun vs H Q _ => ∃ (G : Hp) (M : List (Addr × HO)) (v : V) (s : Sh) (l : Addr) (ns : List Str), vs = [v, .ref l] ∧ Sep G M H ∧ Dp K G v (toD s) ∧ LG ns s ∧ ((∃ c fs, s = .put c fs) ∨ ∃ t m k c fs, s = .each t m k c fs) ∧ NL ns ∧ G l = some (.lst (ns.map V.str)) ∧
  ∀ (G' H' : Hp), Same G G' → Sep G' M H' → Q (.bl true) H'
theorem ok_good_children (T : Top K mg w) {k : Nat} (G_is_name : FnOk P w K mg base CX0 k T.a_is_name T.d_is_name ["thing"] spName) (G_good_form : FnOk P w K mg base CX0 k T.a_good_form T.d_good_form ["parts", "names"] (spGf K)) (G_good_menu : FnOk P w K mg base CX0 k T.a_good_menu T.d_good_menu ["menu"] (spMenu K)) :
    FnOk P w K mg base CX0 (k + 1) T.a_good_children T.d_good_children ["shape", "names"] (spGc K) := by
  refine T.F_good_children.ok sc_good_children (fun vs H Q E h => ?_) (fun cdv A outer s H vs Q E hr h => ?_)
  · obtain ⟨G, M, v, sh, l, ns, rfl, _⟩ := h
    rfl
  · obtain ⟨G, M, v, sh, l, ns, rfl, S, hv, lg, hs, nl, hl, q⟩ := h
    have hl0 := hl
    have hl : SqL K G l (ns.map V.str) := SqL.of hl0
    have lt12 := nl.lt
    have len12 := nl.len
    refine ⟨_, (pss_cons (xs_if (xt_cmp (op_eqLK K hr.u190) (pe_ix (ix_k K) (xv 0) pe_int (fun _ _ => rfl)) pe_str (nomark _))
      (pss_cons (xs_if (PW.pt (xw_or (xt_cmp (op_neLK K hr.u190) (pe_callB (cr_lenK K) (by rfl) T.m_len (by decide +kernel) (pa_cons (xv 0) pa_nil)) pe_int (nomark _)) (xw_or (pt_not (xt_truK K (pe_call G_is_name (hr.mono (by omega)) (by rfl) T.g_is_name T.F_is_name.kp T.b_is_name .nil pass0 (pa_cons (pe_ix (ix_k K) (xv 0) pe_int (fun _ _ => rfl)) pa_nil)))) (pw_or1 (pt_not (xt_truK K (pe_callB (call_isK K) (by rfl) T.m_isinstance (by decide +kernel) (pa_cons (pe_ix (ix_k K) (xv 0) pe_int (fun _ _ => rfl)) (pa_cons (pe_bltn (v := .ty "tuple") (by rfl) T.m_tuple (by decide +kernel) rfl) pa_nil)))))))))
      (pss_one (ps_ret pe_bl))
      pss_nil)
      (pss_one (ps_ret (pe_callB (cr_allK K rfl) (by rfl) T.m_all (by decide +kernel) (pa_cons (pe_lc (own := [("form", 2)]) (by rfl) sc_good_children.nd (pi_tupK K (pe_ix (ix_k K) (xv 0) pe_int (fun _ _ => rfl))) (blkOk_by (N := ["shape", "names", "form"]) (sc := defScope s_good_children) (by decide +kernel)) (fun _ _ _ _ _ => (pg_name (i := 2) sc_good_children.nd rfl (.inl rfl))) (fun _ _ _ _ _ => pts_nil) (fun _ _ _ _ _ => (pe_call G_good_form (hr.mono (by omega)) (by rfl) T.g_good_form T.F_good_form.kp T.b_good_form .nil pass0 (pa_cons (xv 2) (pa_cons (xv 1) pa_nil))))) pa_nil)))))
      pss_nil)
      (pss_cons (xs_if (PW.pt (xw_or (xt_cmp (op_neLK K hr.u190) (pe_ix (ix_k K) (xv 0) pe_int (fun _ _ => rfl)) pe_str (nomark _)) (xw_or (xt_cmp (op_neLK K hr.u190) (pe_callB (cr_lenK K) (by rfl) T.m_len (by decide +kernel) (pa_cons (xv 0) pa_nil)) pe_int (nomark _)) (pw_or1 (pt_not (xt_truK K (pe_call G_good_form (hr.mono (by omega)) (by rfl) T.g_good_form T.F_good_form.kp T.b_good_form .nil pass0 (pa_cons (pe_ix (ix_k K) (xv 0) pe_int (fun _ _ => rfl)) (pa_cons (xv 1) pa_nil)))))))))
      (pss_one (ps_ret pe_bl))
      pss_nil)
      (pss_cons (xs_if (PW.pt (xw_or (pt_not (xt_truK K (pe_call G_good_menu (hr.mono (by omega)) (by rfl) T.g_good_menu T.F_good_menu.kp T.b_good_menu .nil pass0 (pa_cons (pe_ix (ix_k K) (xv 0) pe_int (fun _ _ => rfl)) pa_nil)))) (pw_or1 (pt_not (xt_truK K (pe_call G_good_form (hr.mono (by omega)) (by rfl) T.g_good_form T.F_good_form.kp T.b_good_form .nil pass0 (pa_cons (pe_ix (ix_k K) (xv 0) pe_int (fun _ _ => rfl)) (pa_cons (pe_lst (pa_cons pe_str (pa_cons pe_str pa_nil))) pa_nil))))))))
      (pss_one (ps_ret pe_bl))
      pss_nil)
      (pss_cons (xs_if (PW.pt (xw_or (pt_not (xt_truK K (pe_call G_is_name (hr.mono (by omega)) (by rfl) T.g_is_name T.F_is_name.kp T.b_is_name .nil pass0 (pa_cons (pe_ix (ix_k K) (xv 0) pe_int (fun _ _ => rfl)) pa_nil)))) (pw_or1 (pt_not (xt_truK K (pe_callB (call_isK K) (by rfl) T.m_isinstance (by decide +kernel) (pa_cons (pe_ix (ix_k K) (xv 0) pe_int (fun _ _ => rfl)) (pa_cons (pe_bltn (v := .ty "tuple") (by rfl) T.m_tuple (by decide +kernel) rfl) pa_nil))))))))
      (pss_one (ps_ret pe_bl))
      pss_nil)
      (pss_one (ps_ret (pe_callB (cr_allK K rfl) (by rfl) T.m_all (by decide +kernel) (pa_cons (pe_lc (own := [("form", 2)]) (by rfl) sc_good_children.nd (pi_tupK K (pe_ix (ix_k K) (xv 0) pe_int (fun _ _ => rfl))) (blkOk_by (N := ["shape", "names", "form"]) (sc := defScope s_good_children) (by decide +kernel)) (fun _ _ _ _ _ => (pg_name (i := 2) sc_good_children.nd rfl (.inl rfl))) (fun _ _ _ _ _ => pts_nil) (fun _ _ _ _ _ => (pe_call G_good_form (hr.mono (by omega)) (by rfl) T.g_good_form T.F_good_form.kp T.b_good_form .nil pass0 (pa_cons (xv 2) (pa_cons (pe_op op_addY (xv 1) (pe_lst (pa_cons pe_str (pa_cons pe_str pa_nil)))) pa_nil))))) pa_nil)))))))), ?_⟩
    have h0 : ∀ {x : V} {r : List V}, atI (x :: r) 0 = some x := atI_nat (j := 0) rfl
    have h1 : ∀ {x y : V} {r : List V}, atI (x :: y :: r) 1 = some y := atI_nat (j := 1) rfl
    have h2 : ∀ {x y z : V} {r : List V}, atI (x :: y :: z :: r) 2 = some z := atI_nat (j := 2) rfl
    have h3 : ∀ {x y z u : V} {r : List V}, atI (x :: y :: z :: u :: r) 3 = some u := atI_nat (j := 3) rfl
    have h4 : ∀ {x y z u v : V} {r : List V}, atI (x :: y :: z :: u :: v :: r) 4 = some v := atI_nat (j := 4) rfl
    have h5 : ∀ {x y z u v w : V} {r : List V}, atI (x :: y :: z :: u :: v :: w :: r) 5 = some w := atI_nat (j := 5) rfl
    rcases hs with ⟨c, fs, rfl⟩ | ⟨t, m, kf, c, fs, rfl⟩
    · obtain ⟨a, rest, rfl, ha, hr'⟩ := shp_at hv
      change SqT K _ a (V.str ("put" : Str) :: _) at ha
      obtain ⟨x1, r1, rfl, d1, e1⟩ := dpa_cons hr'
      obtain ⟨x2, r2, rfl, d2, e2⟩ := dpa_cons e1
      obtain rfl := dpa_nil e2
      obtain ⟨⟨z, rfl, ltz⟩, l16, hfs⟩ : NmD c ∧ fs.length ≤ 16 ∧ ∀ f ∈ fs, FmD ns f := lg
      obtain rfl := dp_str d1
      obtain ⟨b, xs, rfl, hb, hx⟩ := dp_tup d2
      have hA := S.t ha
      refine ⟨_, _, .inr hA, at0, fun _ => ⟨_, .inr hA, fun e => ?_, fun _ => ⟨_, _, .inr hA, h1, G, M, z, rfl, S, ltz, fun G1 H1 s1 S1 => ⟨ff, fun _ => ?_⟩⟩⟩, fun e => we e⟩
      · exact nomatch e
      · refine ⟨_, _, .inr (S1.t (same_t s1 ha)), h2, _, _, _, _, true, rfl, .ty _, sqT_ty (S1.t (same_t s1 hb)), kit_ty (by decide +kernel), fun e => (nomatch e), fun _ => ?_⟩
        refine ⟨_, _, .inr (S1.t (same_t s1 ha)), h2, b, rfl, ⟨_, S1.t (same_t s1 hb)⟩, fun D nD => lc_dpT S1 nD (same_t s1 hb) (dpa_same s1 hx) (List.replicate fs.length (.bool true)) (by simp) (by omega) (fun i x e d G2 H2 ws R he hd hxe s2 S2 hR => ?_) (fun G2 H2 ws s2 S2 hw => ?_)⟩
        · rw [rep_get hd] at hR
          exact ⟨rfl, G2, _, x, e, l, ns, rfl, S2, hxe, hfs e (List.mem_of_getElem? he), lt12, by omega, same_l (s1.trans s2) hl, fun G3 H3 s3 S3 => hR _ G3 H3 s3 S3 (.bl true)⟩
        · rw [dpa_yes hw] at S2
          refine ⟨D, List.replicate fs.length true, rfl, SqL.of S2.hd, ?_⟩
          rw [all_yes]
          exact q _ _ (s1.trans s2) S2.drop
    · obtain ⟨a, rest, rfl, ha, hr'⟩ := shp_at hv
      change SqT K _ a (V.str ("each" : Str) :: _) at ha
      obtain ⟨x1, r1, rfl, d1, e1⟩ := dpa_cons hr'
      obtain ⟨x2, r2, rfl, d2, e2⟩ := dpa_cons e1
      obtain ⟨x3, r3, rfl, d3, e3⟩ := dpa_cons e2
      obtain ⟨x4, r4, rfl, d4, e4⟩ := dpa_cons e3
      obtain ⟨x5, r5, rfl, d5, e5⟩ := dpa_cons e4
      obtain rfl := dpa_nil e5
      obtain ⟨ft, gm, fk, ⟨z, rfl, ltz⟩, l16, hfs⟩ : FmD ns t ∧ GdM m ∧ FmD ["item", "at"] kf ∧ NmD c ∧ fs.length ≤ 16 ∧ ∀ f ∈ fs, FmD (ns ++ (["item", "at"] : List Str)) f := lg
      obtain rfl := dp_str d4
      obtain ⟨b, xs, rfl, hb, hx⟩ := dp_tup d5
      have hA := S.t ha
      refine ⟨_, _, .inr hA, at0, fun e => wd e, fun _ => ?_⟩
      refine ⟨_, _, .inr hA, at0, fun e => wm e, fun _ => ⟨_, .inr hA, fun e => (nomatch e), fun _ => ⟨_, _, .inr hA, h1, G, M, x1, t, l, ns, rfl, S, d1, ft, lt12, by omega, hl, fun G1 H1 s1 S1 => ⟨ff, fun _ => ?_⟩⟩⟩⟩
      refine ⟨_, _, .inr (S1.t (same_t s1 ha)), h2, G1, M, x2, m, rfl, S1, dp_same s1 d2, gm, fun G2 H2 s2 S2 => ⟨ff, fun _ => ⟨_, _, .inr (S2.t (same_t (s1.trans s2) ha)), h3, sz, fun tt2 nt => ?_⟩⟩⟩
      have S3 := S2.newG (o := .lst ((["item", "at"] : List Str).map V.str)) nt
      have s3 := (s1.trans s2).trans (S2.grow (o := .lst ((["item", "at"] : List Str).map V.str)) nt)
      refine ⟨_, M, x3, kf, tt2, ["item", "at"], rfl, S3, dp_same s3 d3, fk, lt_ia, by decide, SqL.of upd_same, fun G4 H4 s4 S4 => ⟨ff, fun _ => ?_⟩⟩
      have s4 := s3.trans s4
      refine ⟨_, _, .inr (S4.t (same_t s4 ha)), h4, G4, M, z, rfl, S4, ltz, fun G5 H5 s5 S5 => ⟨ff, fun _ => ?_⟩⟩
      have s5 := s4.trans s5
      refine ⟨_, _, .inr (S5.t (same_t s5 ha)), h5, _, _, _, _, true, rfl, .ty _, sqT_ty (S5.t (same_t s5 hb)), kit_ty (by decide +kernel), fun e => (nomatch e), fun _ => ?_⟩
      refine ⟨_, _, .inr (S5.t (same_t s5 ha)), h5, b, rfl, ⟨_, S5.t (same_t s5 hb)⟩, fun D nD => lc_dpT S5 nD (same_t s5 hb) (dpa_same s5 hx) (List.replicate fs.length (.bool true)) (by simp) (by omega) (fun i x e d G6 H6 ws R he hd hxe s6 S6 hR => ?_) (fun G6 H6 ws s6 S6 hw => ?_)⟩
      · rw [rep_get hd] at hR
        refine ⟨rfl, sz, fun t7 n7 => ?_⟩
        have S7 := S6.newG (o := .lst ((["item", "at"] : List Str).map V.str)) n7
        have s7 := S6.grow (o := .lst ((["item", "at"] : List Str).map V.str)) n7
        refine ⟨l, t7, _, _, rfl, rfl, S7.st (s7 _ _ (s6 _ _ (s5 _ _ hl0))), upd_same, by rw [List.length_map]; exact small (by simp only [List.length_cons, List.length_nil]; omega), fun t8 n8 => ?_⟩
        have e8 : ns.map V.str ++ [V.str "item", V.str "at"] = (ns ++ (["item", "at"] : List Str)).map V.str := by rw [List.map_append]; rfl
        have S8 := S7.newG (o := .lst (ns.map V.str ++ [V.str "item", V.str "at"])) n8
        have s8 := s7.trans (S7.grow (o := .lst (ns.map V.str ++ [V.str "item", V.str "at"])) n8)
        refine ⟨_, _, x, e, t8, ns ++ (["item", "at"] : List Str), rfl, S8, dp_same s8 hxe, hfs e (List.mem_of_getElem? he), fun z hz => ?_, by rw [List.length_append]; simp only [List.length_cons, List.length_nil]; omega, SqL.of (by rw [← e8]; exact upd_same), fun G9 H9 s9 S9 => hR _ G9 H9 (s8.trans s9) S9 (.bl true)⟩
        rcases List.mem_append.mp hz with hz | hz
        · exact lt12 z hz
        · exact lt_ia z hz
      · rw [dpa_yes hw] at S6
        refine ⟨D, List.replicate fs.length true, rfl, SqL.of S6.hd, ?_⟩
        rw [all_yes]
        exact q _ _ (s5.trans s6) S6.drop
def spGs (K : PySem.W.Frag) (n : Nat) : Sp := fun vs H Q _ => ∃ (G : Hp) (M : List (Addr × HO)) (v : V) (s : Sh) (lv : Nat) (l : Addr) (ns : List Str), vs = [v, .int (lv : Nat), .ref l] ∧ Sep G M H ∧ Dp K G v (toD s) ∧ hgt s ≤ n ∧ lv + hgt s ≤ 6 ∧ SG ns s ∧ NL ns ∧ G l = some (.lst (ns.map V.str)) ∧
  ∀ (G' H' : Hp), Same G G' → Sep G' M H' → Q (.bl true) H'
theorem ok_good_shape (T : Top K mg w) {k : Nat} (G_is_name : FnOk P w K mg base CX0 k T.a_is_name T.d_is_name ["thing"] spName) (G_good_form : FnOk P w K mg base CX0 k T.a_good_form T.d_good_form ["parts", "names"] (spGf K)) (G_good_children : FnOk P w K mg base CX0 k T.a_good_children T.d_good_children ["shape", "names"] (spGc K)) :
    ∀ n, FnOk P w K mg base CX0 (k + n) T.a_good_shape T.d_good_shape ["shape", "level", "names"] (spGs K n)
  | 0 => fn_false fun vs H Q E h => by
    obtain ⟨G, M, v, sh, lv, l, ns, _, _, _, h1, _⟩ := h
    have := hgt_eq sh
    omega
  | n + 1 => by
    have G_good_shape := ok_good_shape T G_is_name G_good_form G_good_children n
    refine T.F_good_shape.ok sc_good_shape (fun vs H Q E h => ?_) (fun cdv A outer s H vs Q E hr h => ?_)
    · obtain ⟨G, M, v, sh, lv, l, ns, rfl, _⟩ := h
      rfl
    · obtain ⟨G, M, v, sh, lv, l, ns, rfl, S, hv, hn, h6, sg, nl, hl, q⟩ := h
      have hr : Room (k + n) (A.deeper (envOfC (Str.ofString "good_shape") (defScope s_good_shape) s.heap.objs.size T.a_good_shape cdv)) := hr
      refine ⟨_, (pss_cons (xs_if (PW.pt (xw_or (xt_cmp op_gtY (xv 1) (xe_globI (by rfl) T.v_MOST_LEVELS_components) (nomark _)) (xw_or (pt_not (xt_truK K (pe_callB (call_isK K) (by rfl) T.m_isinstance (by decide +kernel) (pa_cons (xv 0) (pa_cons (pe_bltn (v := .ty "tuple") (by rfl) T.m_tuple (by decide +kernel) rfl) pa_nil))))) (pw_or1 (xt_cmp op_ltY (pe_callB (cr_lenK K) (by rfl) T.m_len (by decide +kernel) (pa_cons (xv 0) pa_nil)) pe_int (nomark _))))))
      (pss_one (ps_ret pe_bl))
      pss_nil)
      (pss_cons (ps_set (i := 3) sc_good_shape.nd rfl (.inl rfl) (pe_ix (ix_k K) (xv 0) pe_int (fun _ _ => rfl)))
      (pss_cons (xs_if (xt_cmp (op_eqLK K hr.u190) (xv 3) pe_str (nomark _))
      (pss_one (ps_ret (xe_and (pe_cmpR (op_eqLK K hr.u190) (pe_callB (cr_lenK K) (by rfl) T.m_len (by decide +kernel) (pa_cons (xv 0) pa_nil)) pe_int (nomark _)) (pe_one (pe_call G_good_form (hr.mono (by omega)) (by rfl) T.g_good_form T.F_good_form.kp T.b_good_form .nil pass0 (pa_cons (pe_ix (ix_k K) (xv 0) pe_int (fun _ _ => rfl)) (pa_cons (xv 2) pa_nil)))))))
      pss_nil)
      (pss_cons (xs_if (xt_cmp (op_eqLK K hr.u190) (xv 3) pe_str (nomark _))
      (pss_one (ps_ret (xe_and (pe_cmpR (op_eqLK K hr.u190) (pe_callB (cr_lenK K) (by rfl) T.m_len (by decide +kernel) (pa_cons (xv 0) pa_nil)) pe_int (nomark _)) (pe_one (pe_call G_is_name (hr.mono (by omega)) (by rfl) T.g_is_name T.F_is_name.kp T.b_is_name .nil pass0 (pa_cons (pe_ix (ix_k K) (xv 0) pe_int (fun _ _ => rfl)) pa_nil))))))
      pss_nil)
      (pss_cons (xs_if (PW.pt (xw_or (xt_cmp (op_eqLK K hr.u190) (xv 3) pe_str (nomark _)) (pw_or1 (xt_cmp (op_eqLK K hr.u190) (xv 3) pe_str (nomark _)))))
      (pss_cons (xs_if (PW.pt (xw_or (xt_cmp (op_neLK K hr.u190) (pe_callB (cr_lenK K) (by rfl) T.m_len (by decide +kernel) (pa_cons (xv 0) pa_nil)) pe_int (nomark _)) (xw_or (pt_not (xt_truK K (pe_callB (call_isK K) (by rfl) T.m_isinstance (by decide +kernel) (pa_cons (pe_ix (ix_k K) (xv 0) pe_int (fun _ _ => rfl)) (pa_cons (pe_bltn (v := .ty "tuple") (by rfl) T.m_tuple (by decide +kernel) rfl) pa_nil))))) (pw_or1 (xt_cmp op_gtY (pe_callB (cr_lenK K) (by rfl) T.m_len (by decide +kernel) (pa_cons (pe_ix (ix_k K) (xv 0) pe_int (fun _ _ => rfl)) pa_nil)) (xe_globI (by rfl) T.v_MOST_SHAPES) (nomark _))))))
      (pss_one (ps_ret pe_bl))
      pss_nil)
      (pss_one (ps_ret (pe_callB (cr_allK K rfl) (by rfl) T.m_all (by decide +kernel) (pa_cons (pe_lc (own := [("part", 4)]) (by rfl) sc_good_shape.nd (pi_tupK K (pe_ix (ix_k K) (xv 0) pe_int (fun _ _ => rfl))) (blkOk_by (N := ["shape", "level", "names", "word", "part"]) (sc := defScope s_good_shape) (by decide +kernel)) (fun _ _ _ _ _ => (pg_name (i := 4) sc_good_shape.nd rfl (.inl rfl))) (fun _ _ _ _ _ => pts_nil) (fun _ _ _ _ _ => (pe_call G_good_shape (hr.mono (by omega)) (by rfl) T.g_good_shape T.F_good_shape.kp T.b_good_shape .nil pass0 (pa_cons (xv 4) (pa_cons (pe_op op_addY (xv 1) pe_int) (pa_cons (xv 2) pa_nil)))))) pa_nil)))))
      pss_nil)
      (pss_cons (xs_if (xt_cmp (op_eqLK K hr.u190) (xv 3) pe_str (nomark _))
      (pss_cons (xs_if (PW.pt (xw_or (xt_cmp (op_neLK K hr.u190) (pe_callB (cr_lenK K) (by rfl) T.m_len (by decide +kernel) (pa_cons (xv 0) pa_nil)) pe_int (nomark _)) (pw_or1 (pt_not (xt_truK K (pe_call G_good_form (hr.mono (by omega)) (by rfl) T.g_good_form T.F_good_form.kp T.b_good_form .nil pass0 (pa_cons (pe_ix (ix_k K) (xv 0) pe_int (fun _ _ => rfl)) (pa_cons (xv 2) pa_nil))))))))
      (pss_one (ps_ret pe_bl))
      pss_nil)
      (pss_one (ps_ret (xe_and (pe_call G_good_shape (hr.mono (by omega)) (by rfl) T.g_good_shape T.F_good_shape.kp T.b_good_shape .nil pass0 (pa_cons (pe_ix (ix_k K) (xv 0) pe_int (fun _ _ => rfl)) (pa_cons (pe_op op_addY (xv 1) pe_int) (pa_cons (xv 2) pa_nil)))) (pe_one (pe_call G_good_shape (hr.mono (by omega)) (by rfl) T.g_good_shape T.F_good_shape.kp T.b_good_shape .nil pass0 (pa_cons (pe_ix (ix_k K) (xv 0) pe_int (fun _ _ => rfl)) (pa_cons (pe_op op_addY (xv 1) pe_int) (pa_cons (xv 2) pa_nil)))))))))
      pss_nil)
      (pss_one (ps_ret (pe_call G_good_children (hr.mono (by omega)) (by rfl) T.g_good_children T.F_good_children.kp T.b_good_children .nil pass0 (pa_cons (xv 0) (pa_cons (xv 2) pa_nil))))))))))), ?_⟩
      have h0 : ∀ {x : V} {r : List V}, atI (x :: r) 0 = some x := atI_nat (j := 0) rfl
      have h1 : ∀ {x y : V} {r : List V}, atI (x :: y :: r) 1 = some y := atI_nat (j := 1) rfl
      have h2 : ∀ {x y z : V} {r : List V}, atI (x :: y :: z :: r) 2 = some z := atI_nat (j := 2) rfl
      have h3 : ∀ {x y z u : V} {r : List V}, atI (x :: y :: z :: u :: r) 3 = some u := atI_nat (j := 3) rfl
      obtain ⟨a, rest, rfl, ha, hr'⟩ := shp_at hv
      have hA := S.t ha
      have hgs := hgt_eq sh
      have hgp : 0 < hgt sh := by omega
      have lg := sg.loc
      have al := dpa_len hr'
      have a1 : 1 ≤ (args sh).length := by cases sh <;> simp [args]
      refine ⟨fun e => absurd (of_decide_eq_true e) (by omega), fun _ => ⟨_, _, _, _, true, rfl, .ty _, sqT_ty hA, kit_ty (by decide +kernel), fun e => (nomatch e), fun _ => ⟨_, .inr hA, fun e => ?_, fun _ => ⟨_, _, .inr hA, at0, ?_⟩⟩⟩⟩
      · have := of_decide_eq_true e
        rw [List.length_cons] at this
        omega
      · cases sh with
        | text f =>
          obtain ⟨x1, r1, rfl, d1, e1⟩ := dpa_cons hr'
          obtain rfl := dpa_nil e1
          exact ⟨fun _ => ⟨_, .inr hA, fun _ => ⟨_, _, .inr hA, h1, G, M, x1, f, l, ns, rfl, S, d1, lg, nl.lt, by have := nl.len; omega, SqL.of hl, q⟩, fun e => (nomatch e)⟩, fun e => we (a := "text") e⟩
        | button f =>
          obtain ⟨x1, r1, rfl, d1, e1⟩ := dpa_cons hr'
          obtain rfl := dpa_nil e1
          obtain ⟨z, rfl, ltz⟩ : NmD f := lg
          obtain rfl := dp_str d1
          exact ⟨fun e => wd (a := "button") e, fun _ => ⟨fun _ => ⟨_, .inr hA, fun _ => ⟨_, _, .inr hA, h1, G, M, z, rfl, S, ltz, q⟩, fun e => (nomatch e)⟩, fun e => we (a := "button") e⟩⟩
        | put c fs =>
          exact ⟨fun e => wd (a := "put") e, fun _ => ⟨fun e => wd (a := "put") e, fun _ => ⟨fun e => wd (a := "put") e, fun _ => ⟨fun e => wd (a := "put") e, fun _ => ⟨fun e => wd (a := "put") e, fun _ => ⟨G, M, _, _, l, ns, rfl, S, hv, lg, .inl ⟨_, _, rfl⟩, nl, hl, q⟩⟩⟩⟩⟩⟩
        | each t m kf c fs =>
          exact ⟨fun e => wd (a := "each") e, fun _ => ⟨fun e => wd (a := "each") e, fun _ => ⟨fun e => wd (a := "each") e, fun _ => ⟨fun e => wd (a := "each") e, fun _ => ⟨fun e => wd (a := "each") e, fun _ => ⟨G, M, _, _, l, ns, rfl, S, hv, lg, .inr ⟨_, _, _, _, _, rfl⟩, nl, hl, q⟩⟩⟩⟩⟩⟩
        | line c ps =>
          obtain ⟨x1, r1, rfl, d1, e1⟩ := dpa_cons hr'
          obtain rfl := dpa_nil e1
          obtain ⟨b, xs, rfl, hb, hx⟩ := dp_tup d1
          have hB := S.t hb
          have l16 : ps.length ≤ 16 := lg
          have xl := dpa_len hx
          rw [List.length_map] at xl
          have par : ∀ p ∈ ps, hgt p + 1 ≤ hgt (.line c ps) := fun p hp => hgt_part (s := .line c ps) hp
          have lp : (lv : Int) + 1 = ((lv + 1 : Nat) : Int) := by omega
          cases c
          · refine ⟨fun e => wd (a := "row") e, fun _ => ⟨fun e => wd (a := "row") e, fun _ => ⟨fun _ => ⟨fun _ => ?_, tt⟩, fun e => we (a := "row") e⟩⟩⟩
            refine ⟨_, .inr hA, fun e => (nomatch e), fun _ => ⟨_, _, .inr hA, h1, _, _, _, _, true, rfl, .ty _, sqT_ty hB, kit_ty (by decide +kernel), fun e => (nomatch e), fun _ => ⟨_, _, .inr hA, h1, _, .inr hB, fun e => absurd (of_decide_eq_true e) (by omega), fun _ => ?_⟩⟩⟩
            refine ⟨_, _, .inr hA, h1, b, rfl, ⟨_, hB⟩, fun D nD => lc_dpT S nD hb hx (List.replicate ps.length (.bool true)) (by simp) (by rw [List.length_map]; omega) (fun i x e d G6 H6 ws R he hd hxe s6 S6 hR => ?_) (fun G6 H6 ws s6 S6 hw => ?_)⟩
            · rw [rep_get hd] at hR
              obtain ⟨p, hp1, rfl⟩ := map_get he
              have hm := List.mem_of_getElem? hp1
              have hp2 := par p hm
              exact ⟨rfl, G6, _, x, p, lv + 1, l, ns, rfl, S6, hxe, by omega, by omega, sg.part hm, nl, s6 _ _ hl, fun G9 H9 s9 S9 => hR _ G9 H9 s9 S9 (.bl true)⟩
            · rw [dpa_yes hw] at S6
              refine ⟨D, List.replicate ps.length true, rfl, SqL.of S6.hd, ?_⟩
              rw [all_yes]
              exact q _ _ s6 S6.drop
          · refine ⟨fun e => wd (a := "col") e, fun _ => ⟨fun e => wd (a := "col") e, fun _ => ⟨fun e => wd (a := "col") e, fun _ => ⟨fun _ => ?_, fun e => we (a := "col") e⟩⟩⟩⟩
            refine ⟨_, .inr hA, fun e => (nomatch e), fun _ => ⟨_, _, .inr hA, h1, _, _, _, _, true, rfl, .ty _, sqT_ty hB, kit_ty (by decide +kernel), fun e => (nomatch e), fun _ => ⟨_, _, .inr hA, h1, _, .inr hB, fun e => absurd (of_decide_eq_true e) (by omega), fun _ => ?_⟩⟩⟩
            refine ⟨_, _, .inr hA, h1, b, rfl, ⟨_, hB⟩, fun D nD => lc_dpT S nD hb hx (List.replicate ps.length (.bool true)) (by simp) (by rw [List.length_map]; omega) (fun i x e d G6 H6 ws R he hd hxe s6 S6 hR => ?_) (fun G6 H6 ws s6 S6 hw => ?_)⟩
            · rw [rep_get hd] at hR
              obtain ⟨p, hp1, rfl⟩ := map_get he
              have hm := List.mem_of_getElem? hp1
              have hp2 := par p hm
              exact ⟨rfl, G6, _, x, p, lv + 1, l, ns, rfl, S6, hxe, by omega, by omega, sg.part hm, nl, s6 _ _ hl, fun G9 H9 s9 S9 => hR _ G9 H9 s9 S9 (.bl true)⟩
            · rw [dpa_yes hw] at S6
              refine ⟨D, List.replicate ps.length true, rfl, SqL.of S6.hd, ?_⟩
              rw [all_yes]
              exact q _ _ s6 S6.drop
        | wen f x y =>
          obtain ⟨x1, r1, rfl, d1, e1⟩ := dpa_cons hr'
          obtain ⟨x2, r2, rfl, d2, e2⟩ := dpa_cons e1
          obtain ⟨x3, r3, rfl, d3, e3⟩ := dpa_cons e2
          obtain rfl := dpa_nil e3
          have hx1 := hgt_part (s := .wen f x y) (p := x) (by simp [parts])
          have hx2 := hgt_part (s := .wen f x y) (p := y) (by simp [parts])
          refine ⟨fun e => wd (a := "when") e, fun _ => ⟨fun e => wd (a := "when") e, fun _ => ⟨fun e => wd (a := "when") e, fun _ => ⟨fun e => wd (a := "when") e, fun _ => ⟨fun _ => ?_, fun e => we (a := "when") e⟩⟩⟩⟩⟩
          refine ⟨_, .inr hA, fun e => (nomatch e), fun _ => ⟨_, _, .inr hA, h1, G, M, x1, f, l, ns, rfl, S, d1, lg, nl.lt, by have := nl.len; omega, SqL.of hl, fun G1 H1 s1 S1 => ⟨ff, fun _ => ?_⟩⟩⟩
          refine ⟨_, _, .inr (S1.t (same_t s1 ha)), h2, G1, M, x2, x, lv + 1, l, ns, rfl, S1, dp_same s1 d2, by omega, by omega, sg.part (by simp [parts]), nl, s1 _ _ hl, fun G2 H2 s2 S2 => ⟨fun _ => ?_, tt⟩⟩
          exact ⟨_, _, .inr (S2.t (same_t (s1.trans s2) ha)), h3, G2, M, x3, y, lv + 1, l, ns, rfl, S2, dp_same (s1.trans s2) d3, by omega, by omega, sg.part (by simp [parts]), nl, s2 _ _ (s1 _ _ hl), fun G3 H3 s3 S3 => q _ _ ((s1.trans s2).trans s3) S3⟩
/-- a line of more than 16 parts is no good shape -/
def spGsB (K : PySem.W.Frag) : Sp := fun vs H Q _ => ∃ (G : Hp) (M : List (Addr × HO)) (v : V) (col : Bool) (ps : List Sh) (lv : Nat) (l : Addr), vs = [v, .int (lv : Nat), .ref l] ∧ Sep G M H ∧ Dp K G v (toD (.line col ps)) ∧ 16 < ps.length ∧ lv ≤ 5 ∧ ∀ (G' H' : Hp), Same G G' → Sep G' M H' → Q (.bl false) H'
def spGsO (K : PySem.W.Frag) : Sp := fun vs H Q E => spGs K 5 vs H Q E ∨ spGsB K vs H Q E
theorem ok_good_shapeB (T : Top K mg w) {k : Nat} (G_is_name : FnOk P w K mg base CX0 k T.a_is_name T.d_is_name ["thing"] spName) (G_good_form : FnOk P w K mg base CX0 k T.a_good_form T.d_good_form ["parts", "names"] (spGf K)) (G_good_children : FnOk P w K mg base CX0 k T.a_good_children T.d_good_children ["shape", "names"] (spGc K))
    (G_good_shape : FnOk P w K mg base CX0 (k + 4) T.a_good_shape T.d_good_shape ["shape", "level", "names"] (spGs K 4)) : FnOk P w K mg base CX0 (k + 5) T.a_good_shape T.d_good_shape ["shape", "level", "names"] (spGsB K) := by
  refine T.F_good_shape.ok sc_good_shape (fun vs H Q E h => ?_) (fun cdv A outer s H vs Q E hr h => ?_)
  · obtain ⟨G, M, v, col, ps, lv, l, rfl, _⟩ := h
    rfl
  · obtain ⟨G, M, v, col, ps, lv, l, rfl, S, hv, big, h6, q⟩ := h
    refine ⟨_, (pss_cons (xs_if (PW.pt (xw_or (xt_cmp op_gtY (xv 1) (xe_globI (by rfl) T.v_MOST_LEVELS_components) (nomark _)) (xw_or (pt_not (xt_truK K (pe_callB (call_isK K) (by rfl) T.m_isinstance (by decide +kernel) (pa_cons (xv 0) (pa_cons (pe_bltn (v := .ty "tuple") (by rfl) T.m_tuple (by decide +kernel) rfl) pa_nil))))) (pw_or1 (xt_cmp op_ltY (pe_callB (cr_lenK K) (by rfl) T.m_len (by decide +kernel) (pa_cons (xv 0) pa_nil)) pe_int (nomark _))))))
      (pss_one (ps_ret pe_bl))
      pss_nil)
      (pss_cons (ps_set (i := 3) sc_good_shape.nd rfl (.inl rfl) (pe_ix (ix_k K) (xv 0) pe_int (fun _ _ => rfl)))
      (pss_cons (xs_if (xt_cmp (op_eqLK K hr.u190) (xv 3) pe_str (nomark _))
      (pss_one (ps_ret (xe_and (pe_cmpR (op_eqLK K hr.u190) (pe_callB (cr_lenK K) (by rfl) T.m_len (by decide +kernel) (pa_cons (xv 0) pa_nil)) pe_int (nomark _)) (pe_one (pe_call G_good_form (hr.mono (by omega)) (by rfl) T.g_good_form T.F_good_form.kp T.b_good_form .nil pass0 (pa_cons (pe_ix (ix_k K) (xv 0) pe_int (fun _ _ => rfl)) (pa_cons (xv 2) pa_nil)))))))
      pss_nil)
      (pss_cons (xs_if (xt_cmp (op_eqLK K hr.u190) (xv 3) pe_str (nomark _))
      (pss_one (ps_ret (xe_and (pe_cmpR (op_eqLK K hr.u190) (pe_callB (cr_lenK K) (by rfl) T.m_len (by decide +kernel) (pa_cons (xv 0) pa_nil)) pe_int (nomark _)) (pe_one (pe_call G_is_name (hr.mono (by omega)) (by rfl) T.g_is_name T.F_is_name.kp T.b_is_name .nil pass0 (pa_cons (pe_ix (ix_k K) (xv 0) pe_int (fun _ _ => rfl)) pa_nil))))))
      pss_nil)
      (pss_cons (xs_if (PW.pt (xw_or (xt_cmp (op_eqLK K hr.u190) (xv 3) pe_str (nomark _)) (pw_or1 (xt_cmp (op_eqLK K hr.u190) (xv 3) pe_str (nomark _)))))
      (pss_cons (xs_if (PW.pt (xw_or (xt_cmp (op_neLK K hr.u190) (pe_callB (cr_lenK K) (by rfl) T.m_len (by decide +kernel) (pa_cons (xv 0) pa_nil)) pe_int (nomark _)) (xw_or (pt_not (xt_truK K (pe_callB (call_isK K) (by rfl) T.m_isinstance (by decide +kernel) (pa_cons (pe_ix (ix_k K) (xv 0) pe_int (fun _ _ => rfl)) (pa_cons (pe_bltn (v := .ty "tuple") (by rfl) T.m_tuple (by decide +kernel) rfl) pa_nil))))) (pw_or1 (xt_cmp op_gtY (pe_callB (cr_lenK K) (by rfl) T.m_len (by decide +kernel) (pa_cons (pe_ix (ix_k K) (xv 0) pe_int (fun _ _ => rfl)) pa_nil)) (xe_globI (by rfl) T.v_MOST_SHAPES) (nomark _))))))
      (pss_one (ps_ret pe_bl))
      pss_nil)
      (pss_one (ps_ret (pe_callB (cr_allK K rfl) (by rfl) T.m_all (by decide +kernel) (pa_cons (pe_lc (own := [("part", 4)]) (by rfl) sc_good_shape.nd (pi_tupK K (pe_ix (ix_k K) (xv 0) pe_int (fun _ _ => rfl))) (blkOk_by (N := ["shape", "level", "names", "word", "part"]) (sc := defScope s_good_shape) (by decide +kernel)) (fun _ _ _ _ _ => (pg_name (i := 4) sc_good_shape.nd rfl (.inl rfl))) (fun _ _ _ _ _ => pts_nil) (fun _ _ _ _ _ => (pe_call G_good_shape (hr.mono (by omega)) (by rfl) T.g_good_shape T.F_good_shape.kp T.b_good_shape .nil pass0 (pa_cons (xv 4) (pa_cons (pe_op op_addY (xv 1) pe_int) (pa_cons (xv 2) pa_nil)))))) pa_nil)))))
      pss_nil)
      (pss_cons (xs_if (xt_cmp (op_eqLK K hr.u190) (xv 3) pe_str (nomark _))
      (pss_cons (xs_if (PW.pt (xw_or (xt_cmp (op_neLK K hr.u190) (pe_callB (cr_lenK K) (by rfl) T.m_len (by decide +kernel) (pa_cons (xv 0) pa_nil)) pe_int (nomark _)) (pw_or1 (pt_not (xt_truK K (pe_call G_good_form (hr.mono (by omega)) (by rfl) T.g_good_form T.F_good_form.kp T.b_good_form .nil pass0 (pa_cons (pe_ix (ix_k K) (xv 0) pe_int (fun _ _ => rfl)) (pa_cons (xv 2) pa_nil))))))))
      (pss_one (ps_ret pe_bl))
      pss_nil)
      (pss_one (ps_ret (xe_and (pe_call G_good_shape (hr.mono (by omega)) (by rfl) T.g_good_shape T.F_good_shape.kp T.b_good_shape .nil pass0 (pa_cons (pe_ix (ix_k K) (xv 0) pe_int (fun _ _ => rfl)) (pa_cons (pe_op op_addY (xv 1) pe_int) (pa_cons (xv 2) pa_nil)))) (pe_one (pe_call G_good_shape (hr.mono (by omega)) (by rfl) T.g_good_shape T.F_good_shape.kp T.b_good_shape .nil pass0 (pa_cons (pe_ix (ix_k K) (xv 0) pe_int (fun _ _ => rfl)) (pa_cons (pe_op op_addY (xv 1) pe_int) (pa_cons (xv 2) pa_nil)))))))))
      pss_nil)
      (pss_one (ps_ret (pe_call G_good_children (hr.mono (by omega)) (by rfl) T.g_good_children T.F_good_children.kp T.b_good_children .nil pass0 (pa_cons (xv 0) (pa_cons (xv 2) pa_nil))))))))))), ?_⟩
    have h1 : ∀ {x y : V} {r : List V}, atI (x :: y :: r) 1 = some y := atI_nat (j := 1) rfl
    obtain ⟨a, rest, rfl, ha, hr'⟩ := shp_at hv
    have hA := S.t ha
    obtain ⟨x1, r1, rfl, d1, e1⟩ := dpa_cons hr'
    obtain rfl := dpa_nil e1
    obtain ⟨b, xs, rfl, hb, hx⟩ := dp_tup d1
    have hB := S.t hb
    have xl := dpa_len hx
    rw [List.length_map] at xl
    refine ⟨fun e => absurd (of_decide_eq_true e) (by omega), fun _ => ⟨_, _, _, _, true, rfl, .ty _, sqT_ty hA, kit_ty (by decide +kernel), fun e => (nomatch e), fun _ => ⟨_, .inr hA, fun e => (nomatch e), fun _ => ⟨_, _, .inr hA, at0, ?_⟩⟩⟩⟩
    cases col
    · refine ⟨fun e => wd (a := "row") e, fun _ => ⟨fun e => wd (a := "row") e, fun _ => ⟨fun _ => ⟨fun _ => ?_, tt⟩, fun e => we (a := "row") e⟩⟩⟩
      exact ⟨_, .inr hA, fun e => (nomatch e), fun _ => ⟨_, _, .inr hA, h1, _, _, _, _, true, rfl, .ty _, sqT_ty hB, kit_ty (by decide +kernel), fun e => (nomatch e), fun _ => ⟨_, _, .inr hA, h1, _, .inr hB, fun _ => q G H (Same.refl _) S, fun e => absurd (of_decide_eq_false e) (by omega)⟩⟩⟩
    · refine ⟨fun e => wd (a := "col") e, fun _ => ⟨fun e => wd (a := "col") e, fun _ => ⟨fun e => wd (a := "col") e, fun _ => ⟨fun _ => ?_, fun e => we (a := "col") e⟩⟩⟩⟩
      exact ⟨_, .inr hA, fun e => (nomatch e), fun _ => ⟨_, _, .inr hA, h1, _, _, _, _, true, rfl, .ty _, sqT_ty hB, kit_ty (by decide +kernel), fun e => (nomatch e), fun _ => ⟨_, _, .inr hA, h1, _, .inr hB, fun _ => q G H (Same.refl _) S, fun e => absurd (of_decide_eq_false e) (by omega)⟩⟩⟩
theorem ok_good_shapeO (T : Top K mg w) {k : Nat} (G_is_name : FnOk P w K mg base CX0 k T.a_is_name T.d_is_name ["thing"] spName) (G_good_form : FnOk P w K mg base CX0 k T.a_good_form T.d_good_form ["parts", "names"] (spGf K)) (G_good_children : FnOk P w K mg base CX0 k T.a_good_children T.d_good_children ["shape", "names"] (spGc K)) :
    FnOk P w K mg base CX0 (k + 5) T.a_good_shape T.d_good_shape ["shape", "level", "names"] (spGsO K) :=
  fn_or (ok_good_shape T G_is_name G_good_form G_good_children 5) (ok_good_shapeB T G_is_name G_good_form G_good_children (ok_good_shape T G_is_name G_good_form G_good_children 4))

end
end K57
set_option Elab.async false
set_option linter.all false
set_option maxRecDepth 100000
set_option maxHeartbeats 4000000
namespace K57
open PySem PySem.Spec PyProof.Rows L2 XL
section
variable {P : Program} {w : World} {K : PySem.W.Frag} {mg : Str → Option Value} {base : Heap}
/-! ### the small checks of a component -/
def spWi (K : PySem.W.Frag) : Sp := fun vs H Q _ => ∃ (G : Hp) (M : List (Addr × HO)) (v : V) (ws : List Str) (l : Addr) (ns : List Str), vs = [v, .ref l] ∧ Sep G M H ∧ Dp K G v (strsD ws) ∧ Wds ws ∧ ws.length ≤ 200 ∧ SqL K G l (ns.map V.str) ∧ (∀ z ∈ ws, z ∈ ns) ∧
  ∀ (G' H' : Hp), Same G G' → Sep G' M H' → Q (.bl true) H'
theorem ok_within (T : Top K mg w) {k : Nat} (G_different : FnOk P w K mg base CX0 k T.a_different T.d_different ["words"] (spDiff K)) :
    FnOk P w K mg base CX0 (k + 1) T.a_Component_within T.d_Component_within ["told", "names"] (spWi K) := by
  refine T.F_Component_within.ok sc_Component_within (fun vs H Q E h => ?_) (fun cdv A outer s H vs Q E hr h => ?_)
  · obtain ⟨G, M, v, ws, l, ns, rfl, _⟩ := h
    rfl
  · obtain ⟨G, M, v, ws, l, ns, rfl, S, hv, wd, sm, hl, sub, q⟩ := h
    obtain ⟨p, xs, rfl, hp, hx⟩ := dp_tup hv
    obtain rfl := dpa_strs hx
    refine ⟨_, (pss_cons (xs_if (PW.pt (xw_or (pt_not (xt_truK K (pe_callB (call_isK K) (by rfl) T.m_isinstance (by decide +kernel) (pa_cons (xv 0) (pa_cons (pe_bltn (v := .ty "tuple") (by rfl) T.m_tuple (by decide +kernel) rfl) pa_nil))))) (pw_or1 (pt_not (xt_truK K (pe_call G_different (hr.mono (by omega)) (by rfl) T.g_different T.F_different.kp T.b_different .nil pass0 (pa_cons (xv 0) pa_nil)))))))
      (pss_one (ps_ret pe_bl))
      pss_nil)
      (pss_one (ps_ret (pe_callB (cr_allK K rfl) (by rfl) T.m_all (by decide +kernel) (pa_cons (pe_lc (own := [("name", 2)]) (by rfl) sc_Component_within.nd (pi_tupK K (xv 0)) (blkOk_by (N := ["told", "names", "name"]) (sc := defScope s_Component_within) (by decide +kernel)) (fun _ _ _ _ _ => (pg_name (i := 2) sc_Component_within.nd rfl (.inl rfl))) (fun _ _ _ _ _ => pts_nil) (fun _ _ _ _ _ => (pe_cmpR (in_seqK K) (xv 2) (xv 1) (by rfl)))) pa_nil))))), ?_⟩
    refine ⟨_, _, _, _, true, rfl, .ty _, sqT_ty (S.t hp), kit_ty (by decide +kernel), fun e => (nomatch e), fun _ => ⟨G, M, p, ws, rfl, S, .inr hp, sm, wd, fun G1 H1 s1 S1 => ⟨ff, fun _ => ?_⟩⟩⟩
    refine ⟨p, rfl, ⟨_, S1.t (same_t s1 hp)⟩, fun D nD => lc_dpT S1 nD (same_t s1 hp) (dpa_same s1 hx) (List.replicate ws.length (.bool true)) (by simp) (by rw [List.length_map]; omega) (fun i x e d G6 H6 us R he hd hxe s6 S6 hR => ?_) (fun G6 H6 us s6 S6 hw => ?_)⟩
    · rw [rep_get hd] at hR
      rw [List.getElem?_map] at he
      obtain ⟨z, hz, rfl⟩ := Option.map_eq_some_iff.mp he
      obtain rfl := dp_str hxe
      refine ⟨rfl, l, _, rfl, .inl (S6.l (same_l s6 (same_l s1 hl))), rfl, strs_flat _, ?_⟩
      show R (.bl (inV (.str z) (ns.map V.str))) H6
      rw [inV_str, decide_eq_true (sub z (List.mem_of_getElem? hz))]
      exact hR _ G6 H6 (Same.refl _) S6 (.bl true)
    · rw [dpa_yes hw] at S6
      refine ⟨D, List.replicate ws.length true, rfl, SqL.of S6.hd, ?_⟩
      rw [all_yes]
      exact q _ _ (s1.trans s6) S6.drop
def spIsl (K : PySem.W.Frag) : Sp := fun vs H Q _ => ∃ (G : Hp) (M : List (Addr × HO)) (v : V) (r : Str × Bool), vs = [v] ∧ Sep G M H ∧ Dp K G v (dIsl (some r)) ∧ r.1 ∈ (["lost", "kept", "takes"] : List Str) ∧ ∀ (G' H' : Hp), Same G G' → Sep G' M H' → Q (.bl true) H'
theorem ok_good_island (T : Top K mg w) {k : Nat} : FnOk P w K mg base CX0 (k + 1) T.a_Component_good_island T.d_Component_good_island ["island"] (spIsl K) := by
  refine T.F_Component_good_island.ok sc_Component_good_island (fun vs H Q E h => ?_) (fun cdv A outer s H vs Q E hr h => ?_)
  · obtain ⟨G, M, v, r, rfl, _⟩ := h
    rfl
  · obtain ⟨G, M, v, r, rfl, S, hv, hr1, q⟩ := h
    obtain ⟨p, xs, rfl, hp, hx⟩ := dp_tup hv
    obtain ⟨y1, r1, rfl, hy1, hx⟩ := dpa_cons hx
    obtain ⟨y2, r2, rfl, hy2, hx⟩ := dpa_cons hx
    obtain rfl := dpa_nil hx
    obtain rfl := dp_str hy1
    obtain rfl := dp_bl hy2
    have hA := S.t hp
    refine ⟨_, (pss_cons (xs_if (PW.pt (xw_or (pt_not (xt_truK K (pe_callB (call_isK K) (by rfl) T.m_isinstance (by decide +kernel) (pa_cons (xv 0) (pa_cons (pe_bltn (v := .ty "tuple") (by rfl) T.m_tuple (by decide +kernel) rfl) pa_nil))))) (pw_or1 (xt_cmp (op_neLK K hr.u190) (pe_callB (cr_lenK K) (by rfl) T.m_len (by decide +kernel) (pa_cons (xv 0) pa_nil)) pe_int (nomark _)))))
      (pss_one (ps_ret pe_bl))
      pss_nil)
      (pss_one (ps_ret (xe_and (pe_cmpR (in_seqK K) (pe_ix (ix_k K) (xv 0) pe_int (fun _ _ => rfl)) (pe_glob (v := .ref T.U_PRESSES) (by rfl) T.g_PRESSES rfl) (by rfl)) (pe_one (pe_callB (call_isK K) (by rfl) T.m_isinstance (by decide +kernel) (pa_cons (pe_ix (ix_k K) (xv 0) pe_int (fun _ _ => rfl)) (pa_cons (pe_bltn (v := .ty "bool") (by rfl) T.m_bool (by decide +kernel) rfl) pa_nil)))))))), ?_⟩
    refine ⟨_, _, _, _, true, rfl, .ty _, sqT_ty hA, kit_ty (by decide +kernel), fun e => (nomatch e), fun _ => ⟨_, .inr hA, fun e => (nomatch e), fun _ => ⟨_, _, .inr hA, at0, ?_⟩⟩⟩
    refine ⟨T.U_PRESSES, _, rfl, .inr (T.sq_PRESSES _), rfl, rfl, ⟨fun _ => ?_, fun e => ?_⟩⟩
    · exact ⟨_, _, .inr hA, atI_nat (j := 1) rfl, _, _, _, _, true, rfl, .ty _, .base (.bl _), kit_ty (by decide +kernel), q G H (Same.refl _) S⟩
    · have e2 : inV (.str r.1) ((["lost", "kept", "takes"] : List Str).map V.str) = false := e
      rw [inV_str, decide_eq_true hr1] at e2
      cases e2
structure Fs where
  sh : V
  tk : V
  he : V
  ce : V
  ak : V
  gi : V
  ef : V
  de : V
  lo : V
  il : V
def Fs.l (c : Cp) (f : Fs) (r : List (Str × V)) : List (Str × V) :=
  ("name", .str c.name) :: ("shape", f.sh) :: ("takes", f.tk) :: ("hears", f.he) :: ("cells", f.ce) :: ("asks", f.ak) :: ("gives", f.gi) :: ("effects", f.ef) :: ("deeds", f.de) :: ("looks", f.lo) :: ("island", f.il) :: r
theorem Fs.g_name {c : Cp} {f : Fs} {r : List (Str × V)} : (f.l c r).lookup ("name" : Str) = some (V.str c.name) := by
  unfold Fs.l
  rw [lk_eq]
theorem Fs.g_shape {c : Cp} {f : Fs} {r : List (Str × V)} : (f.l c r).lookup ("shape" : Str) = some f.sh := by
  unfold Fs.l
  rw [lk_ne, lk_eq]
theorem Fs.g_takes {c : Cp} {f : Fs} {r : List (Str × V)} : (f.l c r).lookup ("takes" : Str) = some f.tk := by
  unfold Fs.l
  rw [lk_ne, lk_ne, lk_eq]
theorem Fs.g_hears {c : Cp} {f : Fs} {r : List (Str × V)} : (f.l c r).lookup ("hears" : Str) = some f.he := by
  unfold Fs.l
  rw [lk_ne, lk_ne, lk_ne, lk_eq]
theorem Fs.g_cells {c : Cp} {f : Fs} {r : List (Str × V)} : (f.l c r).lookup ("cells" : Str) = some f.ce := by
  unfold Fs.l
  rw [lk_ne, lk_ne, lk_ne, lk_ne, lk_eq]
theorem Fs.g_asks {c : Cp} {f : Fs} {r : List (Str × V)} : (f.l c r).lookup ("asks" : Str) = some f.ak := by
  unfold Fs.l
  rw [lk_ne, lk_ne, lk_ne, lk_ne, lk_ne, lk_eq]
theorem Fs.g_gives {c : Cp} {f : Fs} {r : List (Str × V)} : (f.l c r).lookup ("gives" : Str) = some f.gi := by
  unfold Fs.l
  rw [lk_ne, lk_ne, lk_ne, lk_ne, lk_ne, lk_ne, lk_eq]
theorem Fs.g_effects {c : Cp} {f : Fs} {r : List (Str × V)} : (f.l c r).lookup ("effects" : Str) = some f.ef := by
  unfold Fs.l
  rw [lk_ne, lk_ne, lk_ne, lk_ne, lk_ne, lk_ne, lk_ne, lk_eq]
theorem Fs.g_deeds {c : Cp} {f : Fs} {r : List (Str × V)} : (f.l c r).lookup ("deeds" : Str) = some f.de := by
  unfold Fs.l
  rw [lk_ne, lk_ne, lk_ne, lk_ne, lk_ne, lk_ne, lk_ne, lk_ne, lk_eq]
theorem Fs.g_looks {c : Cp} {f : Fs} {r : List (Str × V)} : (f.l c r).lookup ("looks" : Str) = some f.lo := by
  unfold Fs.l
  rw [lk_ne, lk_ne, lk_ne, lk_ne, lk_ne, lk_ne, lk_ne, lk_ne, lk_ne, lk_eq]
theorem Fs.g_island {c : Cp} {f : Fs} {r : List (Str × V)} : (f.l c r).lookup ("island" : Str) = some f.il := by
  unfold Fs.l
  rw [lk_ne, lk_ne, lk_ne, lk_ne, lk_ne, lk_ne, lk_ne, lk_ne, lk_ne, lk_ne, lk_eq]
theorem Fs.g_all {c : Cp} {f : Fs} {r : List (Str × V)} {an : V} : (f.l c (("all_names", an) :: r)).lookup ("all_names" : Str) = some an := by
  unfold Fs.l
  rw [lk_ne, lk_ne, lk_ne, lk_ne, lk_ne, lk_ne, lk_ne, lk_ne, lk_ne, lk_ne, lk_ne, lk_eq]
theorem Fs.n_within {c : Cp} {f : Fs} {an : V} : (f.l c [("all_names", an)]).lookup ("within" : Str) = none := by
  unfold Fs.l
  rw [lk_ne, lk_ne, lk_ne, lk_ne, lk_ne, lk_ne, lk_ne, lk_ne, lk_ne, lk_ne, lk_ne, lk_ne]
  rfl
theorem Fs.n_good_deed {c : Cp} {f : Fs} {an : V} : (f.l c [("all_names", an)]).lookup ("good_deed" : Str) = none := by
  unfold Fs.l
  rw [lk_ne, lk_ne, lk_ne, lk_ne, lk_ne, lk_ne, lk_ne, lk_ne, lk_ne, lk_ne, lk_ne, lk_ne]
  rfl
theorem Fs.n_good_island {c : Cp} {f : Fs} {an : V} : (f.l c [("all_names", an)]).lookup ("good_island" : Str) = none := by
  unfold Fs.l
  rw [lk_ne, lk_ne, lk_ne, lk_ne, lk_ne, lk_ne, lk_ne, lk_ne, lk_ne, lk_ne, lk_ne, lk_ne]
  rfl
theorem Fs.n_check_told {c : Cp} {f : Fs} {an : V} : (f.l c [("all_names", an)]).lookup ("check_told" : Str) = none := by
  unfold Fs.l
  rw [lk_ne, lk_ne, lk_ne, lk_ne, lk_ne, lk_ne, lk_ne, lk_ne, lk_ne, lk_ne, lk_ne, lk_ne]
  rfl
theorem Fs.n_check_works {c : Cp} {f : Fs} {an : V} : (f.l c [("all_names", an)]).lookup ("check_works" : Str) = none := by
  unfold Fs.l
  rw [lk_ne, lk_ne, lk_ne, lk_ne, lk_ne, lk_ne, lk_ne, lk_ne, lk_ne, lk_ne, lk_ne, lk_ne]
  rfl
theorem Fs.p_all {c : Cp} {f : Fs} {an v : V} : putF "all_names" v (f.l c [("all_names", an)]) = f.l c [("all_names", v)] := by
  unfold Fs.l
  rw [putF_ne, putF_ne, putF_ne, putF_ne, putF_ne, putF_ne, putF_ne, putF_ne, putF_ne, putF_ne, putF_ne, putF_eq]
structure FsAt (K : PySem.W.Frag) (G : Hp) (c : Cp) (f : Fs) (lk : PyData) : Prop where
  sh : Dp K G f.sh (toD c.shape)
  tk : Dp K G f.tk (.tuple (c.takes.map d2))
  he : Dp K G f.he (.tuple (c.hears.map d3))
  ce : Dp K G f.ce (.tuple (c.cells.map d3))
  ak : Dp K G f.ak (.tuple (c.asks.map dAsk))
  gi : Dp K G f.gi (.tuple (c.gives.map dGive))
  ef : Dp K G f.ef (.tuple (c.effs.map dEff))
  de : Dp K G f.de (.tuple (c.deeds.map dDeed))
  lo : Dp K G f.lo lk
  il : Dp K G f.il (dIsl c.isl)
theorem FsAt.same {K : PySem.W.Frag} {G G' : Hp} {c : Cp} {f : Fs} {lk : PyData} (e : Same G G') (h : FsAt K G c f lk) : FsAt K G' c f lk :=
  ⟨dp_same e h.sh, dp_same e h.tk, dp_same e h.he, dp_same e h.ce, dp_same e h.ak, dp_same e h.gi, dp_same e h.ef, dp_same e h.de, dp_same e h.lo, dp_same e h.il⟩
/-- the settings of a deed -/
def GdD (c : Cp) (r : Str × List (Str × Gm) × Bool) : Prop := (1 ≤ r.2.1.length ∧ r.2.1.length ≤ 5) ∧ (r.2.1.map (·.1)).Nodup ∧ ∀ q ∈ r.2.1, q.1 ∈ c.cells.map (·.1) ∧ GdF (c.names ++ (["item"] : List Str)) q.2
def spDeed (K : PySem.W.Frag) (C : Addr) : Sp := fun vs H Q _ => ∃ (G : Hp) (M : List (Addr × HO)) (x dx : Addr) (c : Cp) (f : Fs) (lk : PyData) (an : V) (v : V) (r : Str × List (Str × Gm) × Bool), vs = [.ref x, v, .bl r.2.2] ∧ Sep G ((x, .ins C dx (f.l c [("all_names", an)])) :: M) H ∧ FsAt K G c f lk ∧ Dp K G an (strsD c.names) ∧ GdC c ∧
  GdD c r ∧ Dp K G v (.tuple (r.2.1.map dSet)) ∧ ∀ (G' H' : Hp), Same G G' → Sep G' ((x, .ins C dx (f.l c [("all_names", an)])) :: M) H' → Q (.bl true) H'
theorem ok_good_deed (T : Top K mg w) {k : Nat} (G_good_rows : FnOk P w K mg base CX0 k T.a_good_rows T.d_good_rows ["rows", "most", "size"] (spGr K)) (G_good_form : FnOk P w K mg base CX0 k T.a_good_form T.d_good_form ["parts", "names"] (spGf K)) (G_Component_within : FnOk P w K mg base CX0 k T.a_Component_within T.d_Component_within ["told", "names"] (spWi K)) :
    FnOk P w K mg base CX0 (k + 1) T.a_Component_good_deed T.d_Component_good_deed ["self", "sets", "goes"] (spDeed K T.C_Component) := by
  refine T.F_Component_good_deed.ok sc_Component_good_deed (fun vs H Q E h => ?_) (fun cdv A outer s H vs Q E hr h => ?_)
  · obtain ⟨G, M, x, dx, c, f, lk, an, v, r, rfl, _⟩ := h
    rfl
  · obtain ⟨G, M, x, dx, c, f, lk, an, v, r, rfl, S, fa, han, gc, ⟨⟨d1, d5⟩, dn, ds⟩, hv, q⟩ := h
    have sh0 := hv
    obtain ⟨p, xs, rfl, hp, hx⟩ := dp_tup hv
    have xl := dpa_len hx
    rw [List.length_map] at xl
    refine ⟨_, (pss_cons (xs_if (PW.pt (xw_or (pt_not (xt_truK K (pe_callB (call_isK K) (by rfl) T.m_isinstance (by decide +kernel) (pa_cons (xv 2) (pa_cons (pe_bltn (v := .ty "bool") (by rfl) T.m_bool (by decide +kernel) rfl) pa_nil))))) (xw_or (pt_not (xt_truK K (pe_call G_good_rows (hr.mono (by omega)) (by rfl) T.g_good_rows T.F_good_rows.kp T.b_good_rows .nil pass0 (pa_cons (xv 1) (pa_cons pe_int (pa_cons pe_int pa_nil)))))) (pw_or1 (xt_cmp (op_eqLK K hr.u190) (pe_callB (cr_lenK K) (by rfl) T.m_len (by decide +kernel) (pa_cons (xv 1) pa_nil)) pe_int (nomark _))))))
      (pss_one (ps_ret pe_bl))
      pss_nil)
      (pss_cons (ps_set (i := 3) sc_Component_good_deed.nd rfl (.inr rfl) (pe_op op_addY (pe_callTy (call_listK K) (by rfl) T.m_list (by decide +kernel) (pa_cons (pe_fldK K (xv 0)) pa_nil)) (pe_lst (pa_cons pe_str pa_nil))))
      (pss_cons (ps_setLc (i := 4) (own := [("row", 5)]) (by rfl) sc_Component_good_deed.nd rfl rfl (sw_true rfl rfl rfl (by decide +kernel)) (pi_tupK K (pe_fldK K (xv 0))) (blkOk_by (N := ["self", "sets", "goes", "names", "cells", "row"]) (sc := defScope s_Component_good_deed) (by decide +kernel)) (fun _ _ _ _ _ => (pg_name (i := 5) sc_Component_good_deed.nd rfl (.inl rfl))) (fun _ _ _ _ _ => pts_nil) (fun _ _ _ _ _ => (pe_ix (ix_k K) (xv 5) pe_int (fun _ _ => rfl))))
      (pss_one (ps_ret (xe_and (pe_smethI (xv 0) T.cl_Component T.si_Component_within G_Component_within (hr.mono (by omega)) T.b_Component_within pass0 (pa_cons (pe_callTy (call_tupleK K) (by rfl) T.m_tuple (by decide +kernel) (pa_cons (pe_lc (own := [("row", 5)]) (by rfl) sc_Component_good_deed.nd (pi_tupK K (xv 1)) (blkOk_by (N := ["self", "sets", "goes", "names", "cells", "row"]) (sc := defScope s_Component_good_deed) (by decide +kernel)) (fun _ _ _ _ _ => (pg_name (i := 5) sc_Component_good_deed.nd rfl (.inl rfl))) (fun _ _ _ _ _ => pts_nil) (fun _ _ _ _ _ => (pe_ix (ix_k K) (xv 5) pe_int (fun _ _ => rfl)))) pa_nil)) (pa_cons (xv 4) pa_nil))) (pe_one (pe_callB (cr_allK K rfl) (by rfl) T.m_all (by decide +kernel) (pa_cons (pe_lc (own := [("row", 5)]) (by rfl) sc_Component_good_deed.nd (pi_tupK K (xv 1)) (blkOk_by (N := ["self", "sets", "goes", "names", "cells", "row"]) (sc := defScope s_Component_good_deed) (by decide +kernel)) (fun _ _ _ _ _ => (pg_name (i := 5) sc_Component_good_deed.nd rfl (.inl rfl))) (fun _ _ _ _ _ => pts_nil) (fun _ _ _ _ _ => (pe_call G_good_form (hr.mono (by omega)) (by rfl) T.g_good_form T.F_good_form.kp T.b_good_form .nil pass0 (pa_cons (pe_ix (ix_k K) (xv 5) pe_int (fun _ _ => rfl)) (pa_cons (xv 3) pa_nil))))) pa_nil))))))))), ?_⟩
    refine ⟨_, _, _, _, true, rfl, .ty _, .base (.bl _), kit_ty (by decide +kernel), fun e => (nomatch e), fun _ => ⟨G, _, _, r.2.1.map dSet, 5, 2, rfl, S, sh0, by rw [List.length_map]; exact d5, by rw [List.length_map]; omega, by decide, fun d hd => ?_, fun G1 H1 s1 S1 => ⟨ff, fun _ => ?_⟩⟩⟩
    · obtain ⟨z, _, rfl⟩ := List.mem_map.mp hd
      exact ⟨_, rfl, rfl⟩
    · obtain ⟨pa, xa, rfl, hpa, hxa⟩ := dp_tup (dp_same s1 han)
      obtain rfl := dpa_strs hxa
      obtain ⟨pc, xc, ec, hpc, hxc⟩ := dp_tup (dp_same s1 fa.ce)
      have gl := gc.many
      have cl := gc.c2.1
      refine ⟨_, .inr (S1.t (same_t s1 hp)), fun e => absurd (of_decide_eq_true e) (by omega), fun _ => ?_⟩
      refine ⟨x, T.C_Component, dx, _, _, rfl, S1.hd, T.cl_Component, T.na_Component_all_names, Fs.g_all, pa, _, rfl, .inr (S1.t hpa), fun l2 n2 => ⟨sz, fun l3 n3 => ?_⟩⟩
      obtain ⟨G2, s2, S2, h2⟩ := Sep.mk (o := .lst (c.names.map V.str)) S1 n2
      obtain ⟨G3, s3, S3, h3⟩ := Sep.mk (o := .lst [.str "item"]) S2 n3
      refine ⟨l2, l3, _, _, rfl, rfl, S3.st (s3 _ _ h2), S3.st h3, by rw [List.length_map]; exact small (by simp only [List.length_cons, List.length_nil]; omega), fun l4 n4 => ?_⟩
      have e4 : c.names.map V.str ++ [V.str "item"] = (c.names ++ (["item"] : List Str)).map V.str := by rw [List.map_append]; rfl
      rw [e4]
      obtain ⟨G4, s4, S4, h4⟩ := Sep.mk (o := .lst ((c.names ++ (["item"] : List Str)).map V.str)) S3 n4
      have t4 := (s2.trans s3).trans s4
      refine ⟨x, T.C_Component, dx, _, _, rfl, S4.hd, T.cl_Component, T.na_Component_cells, Fs.g_cells, pc, ec, ⟨_, S4.t (same_t t4 hpc)⟩, fun D nD => lc_dpT S4 nD (same_t t4 hpc) (dpa_same t4 hxc) (c.cells.map fun r => .str r.1) (by simp) (by rw [List.length_map]; omega) (fun i y e d G6 H6 us R he hd hxe s6 S6 hR => ?_) (fun G6 H6 us s6 S6 hw => ?_)⟩
      · rw [List.getElem?_map] at he hd
        obtain ⟨r', hr1, rfl⟩ := Option.map_eq_some_iff.mp he
        rw [hr1] at hd
        cases hd
        obtain ⟨a, ys, rfl, ha, hy⟩ := dp_tup hxe
        obtain ⟨y1, r1, rfl, hy1, _⟩ := dpa_cons hy
        exact ⟨rfl, _, _, .inr (S6.t ha), at0, hR _ G6 H6 (Same.refl _) S6 hy1⟩
      · have ew : us = (c.cells.map (·.1)).map V.str := dpa_strs (by rw [List.map_map]; exact hw)
        subst ew
        have t7 := (t4.trans s6).trans S6.frzS
        have h47 := S6.frzS _ _ (s6 _ _ h4)
        have S7 := S6.frz
        have hD : upd G6 D (.lst ((c.cells.map (·.1)).map V.str)) D = some (.lst ((c.cells.map (·.1)).map V.str)) := upd_same
        have t17 := s1.trans t7
        refine ⟨x, dx, _, rfl, S7.hd, Fs.n_within, p, rfl, ⟨_, S7.t (same_t t17 hp)⟩, fun D2 nD2 => lc_dpT S7 nD2 (same_t t17 hp) (dpa_same t17 hx) (r.2.1.map fun r => .str r.1) (by simp) (by rw [List.length_map]; omega) (fun i y e d G8 H8 us R he hd hxe s8 S8 hR => ?_) (fun G8 H8 us s8 S8 hw8 => ?_)⟩
        · rw [List.getElem?_map] at he hd
          obtain ⟨r', hr1, rfl⟩ := Option.map_eq_some_iff.mp he
          rw [hr1] at hd
          cases hd
          obtain ⟨a, ys, rfl, ha, hy⟩ := dp_tup hxe
          obtain ⟨y1, r1, rfl, hy1, _⟩ := dpa_cons hy
          exact ⟨rfl, _, _, .inr (S8.t ha), at0, hR _ G8 H8 (Same.refl _) S8 hy1⟩
        · have ew8 : us = (r.2.1.map (·.1)).map V.str := dpa_strs (by rw [List.map_map]; exact hw8)
          subst ew8
          refine ⟨D2, _, rfl, .inl ⟨SqL.of S8.hd, fun t9 n9 => ?_⟩⟩
          obtain ⟨G9, s9, S9, h9⟩ := Sep.mk (o := .tup ((r.2.1.map (·.1)).map V.str)) S8 n9
          have S9 := S9.drop
          have t9' := s8.trans s9
          refine ⟨G9, _, .ref t9, r.2.1.map (·.1), D, c.cells.map (·.1), rfl, S9, .tup (SqT.of h9) (dpa_of_strs _), ⟨fun z hz => ?_, dn⟩, by rw [List.length_map]; omega, SqL.of (t9' _ _ hD), fun z hz => ?_, fun G10 H10 s10 S10 => ⟨fun _ => ?_, tt⟩⟩
          · obtain ⟨q1, hq1, rfl⟩ := List.mem_map.mp hz
            exact gc.c1.lt _ (ds q1 hq1).1
          · obtain ⟨q1, hq1, rfl⟩ := List.mem_map.mp hz
            exact (ds q1 hq1).1
          · have t10 := t9'.trans s10
            have t110 := t17.trans t10
            refine ⟨p, rfl, ⟨_, S10.t (same_t t110 hp)⟩, fun D3 nD3 => lc_dpT S10 nD3 (same_t t110 hp) (dpa_same t110 hx) (List.replicate r.2.1.length (.bool true)) (by simp) (by rw [List.length_map]; omega) (fun i y e d G11 H11 us R he hd hxe s11 S11 hR => ?_) (fun G11 H11 us s11 S11 hw11 => ?_)⟩
            · rw [rep_get hd] at hR
              rw [List.getElem?_map] at he
              obtain ⟨q1, hq1, rfl⟩ := Option.map_eq_some_iff.mp he
              obtain ⟨a, ys, rfl, ha, hy⟩ := dp_tup hxe
              obtain ⟨y1, r1, rfl, hy1, hy⟩ := dpa_cons hy
              obtain ⟨y2, r2, rfl, hy2, hy⟩ := dpa_cons hy
              obtain rfl := dpa_nil hy
              refine ⟨rfl, _, _, .inr (S11.t ha), atI_nat (j := 1) rfl, G11, _, y2, _, l4, c.names ++ (["item"] : List Str), rfl, S11, hy2, ⟨_, rfl, (ds q1 (List.mem_of_getElem? hq1)).2⟩, fun z hz => ?_, by rw [List.length_append]; simp only [List.length_cons, List.length_nil]; omega, SqL.of (s11 _ _ (t10 _ _ h47)), fun G12 H12 s12 S12 => hR _ G12 H12 s12 S12 (.bl true)⟩
              rcases List.mem_append.mp hz with hz | hz
              · exact gc.lt z hz
              · rw [List.mem_singleton.mp hz]
                exact lt_item
            · rw [dpa_yes hw11] at S11
              refine ⟨D3, List.replicate r.2.1.length true, rfl, SqL.of S11.hd, ?_⟩
              rw [all_yes]
              exact q _ _ (t110.trans s11) S11.drop

end
end K57
set_option Elab.async false
set_option linter.all false
set_option maxRecDepth 100000
set_option maxHeartbeats 4000000
namespace K57
open PySem PySem.Spec PyProof.Rows L2 XL
section
variable {P : Program} {w : World} {K : PySem.W.Frag} {mg : Str → Option Value} {base : Heap}
/-! ### check_told -/
theorem lc_names {α : Type} {K : PySem.W.Frag} {p : Addr} {xs : List V} {rows : List α} {fd : α → PyData} {nm : α → Str} {i0 : Nat} {vs : List Nat} {σ : L2.St} {H1 : Hp} {D : Addr} {Qd : Hp → Prop} {G : Hp} {M : List (Addr × HO)}
    (S : Sep G M H1) (nD : H1 D = none) (hp : SqT K G p xs) (hx : DpAll K G xs (rows.map fd)) (hf : ∀ r, ∃ es, fd r = .tuple (.str (nm r) :: es)) (sm : rows.length ≤ 100000)
    (hd : ∀ G' H', Same G G' → Sep G' ((D, .lst ((rows.map nm).map V.str)) :: M) H' → Qd H')
    (hw : ∀ x, wipe ((wipe σ vs).set i0 (some x)) vs = wipe σ vs := by intros; rfl) (hv : ∀ x H Q, xVar i0 ((wipe σ vs).set i0 (some x)) H Q = Q x H := by intros; rfl) :
    ∃ W : Nat → Nat → Hp → Prop, (∃ m, W 0 m (upd H1 D (.lst []))) ∧ ∀ i m H, W i m H →
      ((Itt K p).stop i H ∧ Qd H) ∨ ((Itt K p).go i H ∧ ∃ Nx : Hp → Prop, (∀ H', Nx H' → ∃ m', m' < m ∧ W (i + 1) m' H') ∧ ∀ x H', (Itt K p).yld i H x H' → (gName i0) x (wipe σ vs) H' fun σ2 H2 => wipe σ2 vs = wipe σ vs ∧ tYes σ2 H2 fun b H3 =>
        if b = true then (tOp (yIx K) (xVar i0) (tC (V.int 0))) σ2 H3 fun y H4 => ∃ acc, H4 D = some (.lst acc) ∧ acc.length < sizeLine ∧ Nx (upd H4 D (.lst (acc ++ [y]))) else Nx H3) := by
  refine lc_dpT S nD hp hx (rows.map fun r => .str (nm r)) (by simp) (by rw [List.length_map]; omega) (fun i y e d G6 H6 us R he hd hxe s6 S6 hR => ?_) (fun G6 H6 us s6 S6 hw => ?_)
  · rw [List.getElem?_map] at he hd
    obtain ⟨r', hr1, rfl⟩ := Option.map_eq_some_iff.mp he
    rw [hr1] at hd
    cases hd
    obtain ⟨es, ee⟩ := hf r'
    rw [ee] at hxe
    obtain ⟨a, ys, rfl, ha, hy⟩ := dp_tup hxe
    obtain ⟨y1, r1, rfl, hy1, _⟩ := dpa_cons hy
    refine ⟨hw _, ?_⟩
    show xVar i0 ((wipe σ vs).set i0 (some (V.ref a))) H6 _
    rw [hv]
    exact ⟨_, _, .inr (S6.t ha), at0, hR _ G6 H6 (Same.refl _) S6 hy1⟩
  · have ew : us = (rows.map nm).map V.str := dpa_strs (by rw [List.map_map]; exact hw)
    subst ew
    exact hd G6 H6 s6 S6
/-- what a list of names is -/
def LsAt (G : Hp) (l : Addr) (ns : List Str) : Prop := G l = some (.lst (ns.map V.str))
def spCt (K : PySem.W.Frag) (C : Addr) : Sp := fun vs H Q _ => ∃ (G : Hp) (M : List (Addr × HO)) (x dx : Addr) (c : Cp) (f : Fs) (lk : PyData) (an : V), vs = [.ref x] ∧ Sep G ((x, .ins C dx (f.l c [("all_names", an)])) :: M) H ∧ FsAt K G c f lk ∧ GdC c ∧
  ∀ (an' : V) (G' H' : Hp), Same G G' → Dp K G' an' (strsD c.names) → Sep G' ((x, .ins C dx (f.l c [("all_names", an')])) :: M) H' → Q .non H'
theorem ok_check_told (T : Top K mg w) {k : Nat} (G_is_name : FnOk P w K mg base CX0 k T.a_is_name T.d_is_name ["thing"] spName) (G_is_number : FnOk P w K mg base CX0 k T.a_is_number T.d_is_number ["thing", "low", "high"] spNumberIn) (G_good_rows : FnOk P w K mg base CX0 k T.a_good_rows T.d_good_rows ["rows", "most", "size"] (spGr K)) (G_fresh : FnOk P w K mg base CX0 k T.a_fresh T.d_fresh ["names", "earlier"] (spFresh K))
    (G_good_told : FnOk P w K mg base CX0 k T.a_good_told T.d_good_told ["rows", "most", "earlier"] (spTold K)) (G_good_form : FnOk P w K mg base CX0 k T.a_good_form T.d_good_form ["parts", "names"] (spGf K)) :
    FnOk P w K mg base CX0 (k + 1) T.a_Component_check_told T.d_Component_check_told ["self"] (spCt K T.C_Component) := by
  refine T.F_Component_check_told.ok sc_Component_check_told (fun vs H Q E h => ?_) (fun cdv A outer s H vs Q E hr h => ?_)
  · obtain ⟨G, M, x, dx, c, f, lk, an, rfl, _⟩ := h
    rfl
  · obtain ⟨G, M, x, dx, c, f, lk, an, rfl, S, fa, gc, q⟩ := h
    refine ⟨_, (pss_cons (xs_if (pt_not (xt_truK K (pe_call G_is_name (hr.mono (by omega)) (by rfl) T.g_is_name T.F_is_name.kp T.b_is_name .nil pass0 (pa_cons (pe_fldK K (xv 0)) pa_nil))))
      (pss_one ps_never)
      pss_nil)
      (pss_cons (xs_if (PW.pt (xw_or (pt_not (xt_truK K (pe_call G_good_rows (hr.mono (by omega)) (by rfl) T.g_good_rows T.F_good_rows.kp T.b_good_rows .nil pass0 (pa_cons (pe_fldK K (xv 0)) (pa_cons pe_int (pa_cons pe_int pa_nil)))))) (pw_or1 (pt_not (xt_truK K (pe_call G_fresh (hr.mono (by omega)) (by rfl) T.g_fresh T.F_fresh.kp T.b_fresh .nil pass0 (pa_cons (pe_lc (own := [("row", 5)]) (by rfl) sc_Component_check_told.nd (pi_tupK K (pe_fldK K (xv 0))) (blkOk_by (N := ["self", "name", "names", "form", "fence", "row", "size"]) (sc := defScope s_Component_check_told) (by decide +kernel)) (fun _ _ _ _ _ => (pg_name (i := 5) sc_Component_check_told.nd rfl (.inl rfl))) (fun _ _ _ _ _ => pts_nil) (fun _ _ _ _ _ => (pe_ix (ix_k K) (xv 5) pe_int (fun _ _ => rfl)))) (pa_cons (pe_lst pa_nil) pa_nil))))))))
      (pss_one ps_never)
      pss_nil)
      (pss_cons (xs_if (pt_not (xt_truK K (pe_callB (cr_allK K rfl) (by rfl) T.m_all (by decide +kernel) (pa_cons (pe_lc (own := [("name", 1), ("size", 6)]) (by rfl) sc_Component_check_told.nd (pi_tupK K (pe_fldK K (xv 0))) (blkOk_by (N := ["self", "name", "names", "form", "fence", "row", "size"]) (sc := defScope s_Component_check_told) (by decide +kernel)) (fun _ _ _ _ _ => (pg_tupK K 2 (pgs_cons (pg_name (i := 1) sc_Component_check_told.nd rfl (.inl rfl)) (pgs_cons (pg_name (i := 6) sc_Component_check_told.nd rfl (.inl rfl)) pgs_nil)))) (fun _ _ _ _ _ => pts_nil) (fun _ _ _ _ _ => (pe_call G_is_number (hr.mono (by omega)) (by rfl) T.g_is_number T.F_is_number.kp T.b_is_number .nil pass0 (pa_cons (xv 6) (pa_cons pe_int (pa_cons pe_int pa_nil)))))) pa_nil))))
      (pss_one ps_never)
      pss_nil)
      (pss_cons (ps_setLc (i := 2) (own := [("row", 5)]) (by rfl) sc_Component_check_told.nd rfl rfl (sw_true rfl rfl rfl (by decide +kernel)) (pi_tupK K (pe_fldK K (xv 0))) (blkOk_by (N := ["self", "name", "names", "form", "fence", "row", "size"]) (sc := defScope s_Component_check_told) (by decide +kernel)) (fun _ _ _ _ _ => (pg_name (i := 5) sc_Component_check_told.nd rfl (.inl rfl))) (fun _ _ _ _ _ => pts_nil) (fun _ _ _ _ _ => (pe_ix (ix_k K) (xv 5) pe_int (fun _ _ => rfl))))
      (pss_cons (xs_if (pt_not (xt_truK K (pe_call G_good_told (hr.mono (by omega)) (by rfl) T.g_good_told T.F_good_told.kp T.b_good_told .nil pass0 (pa_cons (pe_fldK K (xv 0)) (pa_cons pe_int (pa_cons (xv 2) pa_nil))))))
      (pss_one ps_never)
      pss_nil)
      (pss_cons (ps_set (i := 2) sc_Component_check_told.nd rfl (.inl rfl) (pe_op op_addY (xv 2) (pe_lc (own := [("row", 5)]) (by rfl) sc_Component_check_told.nd (pi_tupK K (pe_fldK K (xv 0))) (blkOk_by (N := ["self", "name", "names", "form", "fence", "row", "size"]) (sc := defScope s_Component_check_told) (by decide +kernel)) (fun _ _ _ _ _ => (pg_name (i := 5) sc_Component_check_told.nd rfl (.inl rfl))) (fun _ _ _ _ _ => pts_nil) (fun _ _ _ _ _ => (pe_ix (ix_k K) (xv 5) pe_int (fun _ _ => rfl))))))
      (pss_cons (xs_if (pt_not (xt_truK K (pe_call G_good_told (hr.mono (by omega)) (by rfl) T.g_good_told T.F_good_told.kp T.b_good_told .nil pass0 (pa_cons (pe_fldK K (xv 0)) (pa_cons pe_int (pa_cons (xv 2) pa_nil))))))
      (pss_one ps_never)
      pss_nil)
      (pss_cons (ps_set (i := 2) sc_Component_check_told.nd rfl (.inl rfl) (pe_op op_addY (xv 2) (pe_lc (own := [("row", 5)]) (by rfl) sc_Component_check_told.nd (pi_tupK K (pe_fldK K (xv 0))) (blkOk_by (N := ["self", "name", "names", "form", "fence", "row", "size"]) (sc := defScope s_Component_check_told) (by decide +kernel)) (fun _ _ _ _ _ => (pg_name (i := 5) sc_Component_check_told.nd rfl (.inl rfl))) (fun _ _ _ _ _ => pts_nil) (fun _ _ _ _ _ => (pe_ix (ix_k K) (xv 5) pe_int (fun _ _ => rfl))))))
      (pss_cons (xs_if (PW.pt (xw_or (pt_not (xt_truK K (pe_call G_good_rows (hr.mono (by omega)) (by rfl) T.g_good_rows T.F_good_rows.kp T.b_good_rows .nil pass0 (pa_cons (pe_fldK K (xv 0)) (pa_cons pe_int (pa_cons pe_int pa_nil)))))) (pw_or1 (pt_not (xt_truK K (pe_call G_fresh (hr.mono (by omega)) (by rfl) T.g_fresh T.F_fresh.kp T.b_fresh .nil pass0 (pa_cons (pe_lc (own := [("row", 5)]) (by rfl) sc_Component_check_told.nd (pi_tupK K (pe_fldK K (xv 0))) (blkOk_by (N := ["self", "name", "names", "form", "fence", "row", "size"]) (sc := defScope s_Component_check_told) (by decide +kernel)) (fun _ _ _ _ _ => (pg_name (i := 5) sc_Component_check_told.nd rfl (.inl rfl))) (fun _ _ _ _ _ => pts_nil) (fun _ _ _ _ _ => (pe_ix (ix_k K) (xv 5) pe_int (fun _ _ => rfl)))) (pa_cons (xv 2) pa_nil))))))))
      (pss_one ps_never)
      pss_nil)
      (pss_cons (ps_for PassesOwn.never rfl (pi_tupK K (pe_fldK K (xv 0))) (pg_tupK K 3 (pgs_cons (pg_name (i := 1) sc_Component_check_told.nd rfl (.inl rfl)) (pgs_cons (pg_name (i := 3) sc_Component_check_told.nd rfl (.inl rfl)) (pgs_cons (pg_name (i := 4) sc_Component_check_told.nd rfl (.inl rfl)) pgs_nil))))
      (pss_one (xs_if (PW.pt (xw_or (pt_not (xt_truK K (pe_call G_good_form (hr.mono (by omega)) (by rfl) T.g_good_form T.F_good_form.kp T.b_good_form .nil pass0 (pa_cons (xv 3) (pa_cons (xv 2) pa_nil))))) (pw_or1 (xt_cmp (notin_seqK K) (xv 4) (pe_glob (v := .ref T.U_FENCES) (by rfl) T.g_FENCES rfl) (by rfl)))))
      (pss_one ps_never)
      pss_nil)))
      (pss_one (ps_fld (xv 0) (pe_callTy (call_tupleK K) (by rfl) T.m_tuple (by decide +kernel) (pa_cons (pe_op op_addY (xv 2) (pe_lc (own := [("row", 5)]) (by rfl) sc_Component_check_told.nd (pi_tupK K (pe_fldK K (xv 0))) (blkOk_by (N := ["self", "name", "names", "form", "fence", "row", "size"]) (sc := defScope s_Component_check_told) (by decide +kernel)) (fun _ _ _ _ _ => (pg_name (i := 5) sc_Component_check_told.nd rfl (.inl rfl))) (fun _ _ _ _ _ => pts_nil) (fun _ _ _ _ _ => (pe_ix (ix_k K) (xv 5) pe_int (fun _ _ => rfl))))) pa_nil)) rfl)))))))))))), ?_⟩
    obtain ⟨p1, x1, e1, hp1, hx1⟩ := dp_tup fa.tk
    obtain ⟨p2, x2, e2, hp2, hx2⟩ := dp_tup fa.he
    obtain ⟨p3, x3, e3, hp3, hx3⟩ := dp_tup fa.ce
    obtain ⟨p4, x4, e4, hp4, hx4⟩ := dp_tup fa.ak
    have n1 := gc.t2.1
    have n2 := gc.h2.1
    have n3 := gc.c2.1
    have na4 := gc.a2.1
    refine ⟨x, T.C_Component, dx, _, _, rfl, S.hd, T.cl_Component, T.na_Component_name, Fs.g_name, G, _, c.name, rfl, S, gc.nm, fun G1 H1 s1 S1 => ⟨ff, fun _ => ?_⟩⟩
    refine ⟨x, T.C_Component, dx, _, _, rfl, S1.hd, T.cl_Component, T.na_Component_takes, Fs.g_takes, G1, _, f.tk, c.takes.map d2, 3, 2, rfl, S1, dp_same s1 fa.tk, by rw [List.length_map]; exact n1, by rw [List.length_map]; omega, by decide, fun d hd => ?_, fun G2 H2 s2 S2 => ⟨ff, fun _ => ?_⟩⟩
    · obtain ⟨z, _, rfl⟩ := List.mem_map.mp hd
      exact ⟨_, rfl, rfl⟩
    have t2 := s1.trans s2
    refine ⟨x, T.C_Component, dx, _, _, rfl, S2.hd, T.cl_Component, T.na_Component_takes, Fs.g_takes, p1, e1, ⟨_, S2.t (same_t t2 hp1)⟩, fun D nD => lc_names S2 nD (same_t t2 hp1) (dpa_same t2 hx1) (fun r => ⟨_, rfl⟩) (by omega) (fun G3 H3 s3 S3 => ?_)⟩
    obtain ⟨G4, s4, S4, hD⟩ := Sep.keep S3
    refine ⟨sz, fun l4 n4 => ?_⟩
    obtain ⟨G5, s5, S5, h5⟩ := Sep.mk (o := .lst []) S4 n4
    refine ⟨G5, _, D, l4, c.takes.map (·.1), [], rfl, S5, SqL.of (s5 _ _ hD), SqL.of h5, by rw [List.length_map]; omega, gc.t1, fun G6 H6 s6 S6 => ⟨ff, fun _ => ?_⟩⟩
    have t6 := t2.trans (s3.trans (s4.trans (s5.trans s6)))
    clear S1 S2 S3 S4 S5 h5 hD
    refine ⟨x, T.C_Component, dx, _, _, rfl, S6.hd, T.cl_Component, T.na_Component_takes, Fs.g_takes, p1, e1, ⟨_, S6.t (same_t t6 hp1)⟩, fun D2 nD2 => lc_dpT S6 nD2 (same_t t6 hp1) (dpa_same t6 hx1) (List.replicate c.takes.length (.bool true)) (by simp) (by rw [List.length_map]; omega) (fun i y e d G7 H7 us R he hd hxe s7 S7 hR => ?_) (fun G7 H7 us s7 S7 hw => ?_)⟩
    · rw [rep_get hd] at hR
      rw [List.getElem?_map] at he
      obtain ⟨r, hr1, rfl⟩ := Option.map_eq_some_iff.mp he
      obtain ⟨a, ys, rfl, ha, hy⟩ := dp_tup hxe
      obtain ⟨y1, r1, rfl, hy1, hy⟩ := dpa_cons hy
      obtain ⟨y2, r2, rfl, hy2, hy⟩ := dpa_cons hy
      obtain rfl := dpa_nil hy
      obtain rfl := dp_int hy2
      have hb := gc.t2.2 r (List.mem_of_getElem? hr1)
      exact ⟨a, _, rfl, S7.t ha, rfl, _, _, rfl, _, _, rfl, rfl, rfl, _, _, _, rfl, hb.1, hb.2, hR _ G7 H7 (Same.refl _) S7 (.bl true)⟩
    rw [dpa_yes hw] at S7
    refine ⟨D2, List.replicate c.takes.length true, rfl, SqL.of S7.hd, ?_⟩
    rw [all_yes]
    refine ⟨ff, fun _ => ?_⟩
    have S7 := S7.drop
    have t7 := t6.trans s7
    refine ⟨x, T.C_Component, dx, _, _, rfl, S7.hd, T.cl_Component, T.na_Component_takes, Fs.g_takes, p1, e1, ⟨_, S7.t (same_t t7 hp1)⟩, fun D3 nD3 => lc_names S7 nD3 (same_t t7 hp1) (dpa_same t7 hx1) (fun r => ⟨_, rfl⟩) (by omega) (fun G8 H8 s8 S8 => ?_)⟩
    obtain ⟨G9, s9, S9, h9⟩ := Sep.keep S8
    have t9 := t7.trans (s8.trans s9)
    clear S6 S7 S8 hw
    refine ⟨x, T.C_Component, dx, _, _, rfl, S9.hd, T.cl_Component, T.na_Component_hears, Fs.g_hears, G9, _, f.he, D3, c.hears, 2, c.takes.map (·.1), rfl, S9, dp_same t9 fa.he, SqL.of h9, n2, by omega, gc.h1, gc.h2.2, fun G10 H10 s10 S10 => ⟨ff, fun _ => ?_⟩⟩
    have t10 := t9.trans s10
    refine ⟨x, T.C_Component, dx, _, _, rfl, S10.hd, T.cl_Component, T.na_Component_hears, Fs.g_hears, p2, e2, ⟨_, S10.t (same_t t10 hp2)⟩, fun D4 nD4 => lc_names S10 nD4 (same_t t10 hp2) (dpa_same t10 hx2) (fun r => ⟨_, rfl⟩) (by omega) (fun G11 H11 s11 S11 => ?_)⟩
    refine ⟨D3, D4, _, _, rfl, rfl, S11.st (s11 _ _ (s10 _ _ h9)), S11.hd, by rw [List.length_map, List.length_map, List.length_map, List.length_map]; exact small (by omega), fun l12 n12 => ?_⟩
    have e12 : (c.takes.map (·.1)).map V.str ++ (c.hears.map (·.1)).map V.str = c.handed.map V.str := by rw [← List.map_append]; rfl
    rw [e12]
    obtain ⟨G12, s12, S12, h12⟩ := Sep.mk (o := .lst (c.handed.map V.str)) S11 n12
    have S12 := S12.drop
    have t12 := t10.trans (s11.trans s12)
    clear S9 S10 S11
    have hl : c.handed.length = c.takes.length + c.hears.length := by simp only [Cp.handed, List.length_append, List.length_map]
    refine ⟨x, T.C_Component, dx, _, _, rfl, S12.hd, T.cl_Component, T.na_Component_cells, Fs.g_cells, G12, _, f.ce, l12, c.cells, 12, c.handed, rfl, S12, dp_same t12 fa.ce, SqL.of h12, n3, by omega, gc.c1, gc.c2.2, fun G13 H13 s13 S13 => ⟨ff, fun _ => ?_⟩⟩
    have t13 := t12.trans s13
    refine ⟨x, T.C_Component, dx, _, _, rfl, S13.hd, T.cl_Component, T.na_Component_cells, Fs.g_cells, p3, e3, ⟨_, S13.t (same_t t13 hp3)⟩, fun D5 nD5 => lc_names S13 nD5 (same_t t13 hp3) (dpa_same t13 hx3) (fun r => ⟨_, rfl⟩) (by omega) (fun G14 H14 s14 S14 => ?_)⟩
    refine ⟨l12, D5, _, _, rfl, rfl, S14.st (s14 _ _ (s13 _ _ h12)), S14.hd, by rw [List.length_map, List.length_map, List.length_map]; exact small (by omega), fun l15 n15 => ?_⟩
    have e15 : c.handed.map V.str ++ (c.cells.map (·.1)).map V.str = c.told.map V.str := by rw [← List.map_append]; rfl
    rw [e15]
    obtain ⟨G15, s15, S15, h15⟩ := Sep.mk (o := .lst (c.told.map V.str)) S14 n15
    have S15 := S15.drop
    have t15 := t13.trans (s14.trans s15)
    clear S12 S13 S14
    have hl2 : c.told.length = c.handed.length + c.cells.length := by simp only [Cp.told, List.length_append, List.length_map]
    refine ⟨x, T.C_Component, dx, _, _, rfl, S15.hd, T.cl_Component, T.na_Component_asks, Fs.g_asks, G15, _, f.ak, c.asks.map dAsk, 2, 3, rfl, S15, dp_same t15 fa.ak, by rw [List.length_map]; exact na4, by rw [List.length_map]; omega, by decide, fun d hd => ?_, fun G16 H16 s16 S16 => ⟨ff, fun _ => ?_⟩⟩
    · obtain ⟨z, _, rfl⟩ := List.mem_map.mp hd
      exact ⟨_, rfl, rfl⟩
    have t16 := t15.trans s16
    refine ⟨x, T.C_Component, dx, _, _, rfl, S16.hd, T.cl_Component, T.na_Component_asks, Fs.g_asks, p4, e4, ⟨_, S16.t (same_t t16 hp4)⟩, fun D6 nD6 => lc_names S16 nD6 (same_t t16 hp4) (dpa_same t16 hx4) (fun r => ⟨_, rfl⟩) (by omega) (fun G17 H17 s17 S17 => ?_)⟩
    obtain ⟨G18, s18, S18, h18⟩ := Sep.keep S17
    have t1518 := s16.trans (s17.trans s18)
    have t18 := t15.trans t1518
    refine ⟨G18, _, D6, l15, c.asks.map (·.1), c.told, rfl, S18, SqL.of h18, SqL.of (t1518 _ _ h15), by rw [List.length_map]; omega, gc.a1, fun G19 H19 s19 S19 => ⟨ff, fun _ => ?_⟩⟩
    have t19 := t18.trans s19
    have h19 := s19 _ _ (t1518 _ _ h15)
    clear S15 S16 S17 S18 h15 h18
    refine ⟨x, T.C_Component, dx, _, _, rfl, S19.hd, T.cl_Component, T.na_Component_asks, Fs.g_asks, p4, e4, ⟨_, S19.t (same_t t19 hp4)⟩, for_tup (xs := x4) (fun i σ H' => ∃ (y1 y3 y4 y5 y6 : Option V) (G' : Hp), σ = [some (.ref x), y1, some (.ref l15), y3, y4, y5, y6] ∧ Same G19 G' ∧ Sep G' ((x, .ins T.C_Component dx (f.l c [("all_names", an)])) :: M) H')
      ⟨_, _, _, _, _, G19, rfl, Same.refl _, S19⟩ (fun i σ H' _ h => ?_) (fun i y σ H' hx h => ?_) (fun σ H' h => ?_)⟩
    · obtain ⟨_, _, _, _, _, G', _, s', S'⟩ := h
      exact S'.t (same_t s' (same_t t19 hp4))
    · obtain ⟨y1, y3, y4, y5, y6, G', rfl, s', S'⟩ := h
      obtain ⟨d, hd, hyd⟩ := dpa_get hx4 hx
      rw [List.getElem?_map] at hd
      obtain ⟨r, hr1, rfl⟩ := Option.map_eq_some_iff.mp hd
      obtain ⟨a, ys, rfl, ha, hy⟩ := dp_tup (dp_same (t19.trans s') hyd)
      obtain ⟨z1, r1, rfl, hz1, hy⟩ := dpa_cons hy
      obtain ⟨z2, r2, rfl, hz2, hy⟩ := dpa_cons hy
      obtain ⟨z3, r3, rfl, hz3, hy⟩ := dpa_cons hy
      obtain rfl := dpa_nil hy
      obtain rfl := dp_str hz3
      have ga := gc.a2.2 r (List.mem_of_getElem? hr1)
      refine ⟨a, _, rfl, S'.t ha, rfl, _, _, rfl, _, _, rfl, _, _, rfl, rfl, ?_⟩
      refine ⟨G', _, z2, r.2.1.dat, l15, c.told, rfl, S', hz2, ⟨_, rfl, ga.1⟩, fun z hz => gc.lt z (List.mem_append_left _ hz), by omega, SqL.of (s' _ _ h19), fun G20 H20 s20 S20 => ⟨ff, fun _ => ?_⟩⟩
      refine ⟨T.U_FENCES, _, rfl, .inr (T.sq_FENCES _), rfl, rfl, fun e => ?_, fun _ => ?_⟩
      · have e2 : (!inV (.str r.2.2) ((["any", "own", "same", "both", "last"] : List Str).map V.str)) = true := e
        rw [inV_str, decide_eq_true ga.2] at e2
        cases e2
      · exact ⟨_, _, _, _, _, G20, rfl, s'.trans s20, S20⟩
    · obtain ⟨y1, y3, y4, y5, y6, G', rfl, s', S'⟩ := h
      have t20 := t19.trans s'
      refine ⟨x, T.C_Component, dx, _, _, rfl, S'.hd, T.cl_Component, T.na_Component_asks, Fs.g_asks, p4, e4, ⟨_, S'.t (same_t t20 hp4)⟩, fun D7 nD7 => lc_names S' nD7 (same_t t20 hp4) (dpa_same t20 hx4) (fun r => ⟨_, rfl⟩) (by omega) (fun G21 H21 s21 S21 => ?_)⟩
      refine ⟨l15, D7, _, _, rfl, rfl, S21.st (s21 _ _ (s' _ _ h19)), S21.hd, by rw [List.length_map, List.length_map, List.length_map]; exact small (by omega), fun l22 n22 => ?_⟩
      have e22 : c.told.map V.str ++ (c.asks.map (·.1)).map V.str = c.names.map V.str := by rw [← List.map_append]; rfl
      rw [e22]
      have S22 := S21.drop.new (o := .lst (c.names.map V.str)) n22
      refine ⟨l22, _, rfl, .inl ⟨SqL.of S22.hd, fun t23 n23 => ?_⟩⟩
      obtain ⟨G23, s23, S23, h23⟩ := Sep.mk (o := .tup (c.names.map V.str)) S22 n23
      have S24 := Sep.drop S23
      refine ⟨x, T.C_Component, dx, _, rfl, S24.hd, T.cl_Component, T.na_Component_all_names, by unfold Fs.l; exact Nat.lt_of_sub_eq_succ rfl, ?_⟩
      rw [Fs.p_all]
      exact q _ G23 _ (t20.trans (s21.trans s23)) (.tup (SqT.of h23) (dpa_of_strs _)) S24.set

end
end K57
set_option Elab.async false
set_option linter.all false
set_option maxRecDepth 100000
set_option maxHeartbeats 4000000
namespace K57
open PySem PySem.Spec PyProof.Rows L2 XL
section
variable {P : Program} {w : World} {K : PySem.W.Frag} {mg : Str → Option Value} {base : Heap}
/-! ### check_works -/
theorem rp_word {z : Str} (h : (reprText z).length ≤ 100000) : RpV (.str z) := .inl ⟨_, rfl, h⟩
def dueC (C Cb : Addr) (G : Hp) (M : List (Addr × HO)) (n : Nat) (Q : VK) (E : XK) (g : Prop) : Prop :=
  (n ≤ 16 → g) ∧ (16 < n → ∀ (G' H' : Hp) (N : List (Addr × HO)) (dd : Addr), Same G G' → Sep G' (N ++ M) H' → H' dd = none → E (.ref Cb) (some dd) (upd H' dd (.xd [("part", .str "shape")])))
def spCw (K : PySem.W.Frag) (C Cb : Addr) : Sp := fun vs H Q E => ∃ (G : Hp) (M : List (Addr × HO)) (x dx : Addr) (c : Cp) (f : Fs) (lk : PyData) (an : V), vs = [.ref x] ∧ Sep G ((x, .ins C dx (f.l c [("all_names", an)])) :: M) H ∧ FsAt K G c f lk ∧ GdC c ∧ (lk = .none ∨ lk = strsD c.looks) ∧ Dp K G an (strsD c.names) ∧ cnt c.shape ≤ 1000 ∧
  (cnt c.shape ≤ 16 → ∀ (G' H' : Hp), Same G G' → Sep G' ((x, .ins C dx (f.l c [("all_names", an)])) :: M) H' → Q .non H') ∧
  (16 < cnt c.shape → ∀ (G' H' : Hp) (N : List (Addr × HO)) (dd : Addr), Same G G' → Sep G' (N ++ (x, .ins C dx (f.l c [("all_names", an)])) :: M) H' → H' dd = none → E (.ref Cb) (some dd) (upd H' dd (.xd [("part", .str "shape")])))
theorem ok_check_works (T : Top K mg w) (pf : PySem.XExc.PF P T.x_file) {k : Nat} (G_is_number : FnOk P w K mg base CX0 k T.a_is_number T.d_is_number ["thing", "low", "high"] spNumberIn) (G_good_rows : FnOk P w K mg base CX0 k T.a_good_rows T.d_good_rows ["rows", "most", "size"] (spGr K)) (G_fresh : FnOk P w K mg base CX0 k T.a_fresh T.d_fresh ["names", "earlier"] (spFresh K))
    (G_different : FnOk P w K mg base CX0 k T.a_different T.d_different ["words"] (spDiff K)) (G_good_form : FnOk P w K mg base CX0 k T.a_good_form T.d_good_form ["parts", "names"] (spGf K)) (G_Component_within : FnOk P w K mg base CX0 k T.a_Component_within T.d_Component_within ["told", "names"] (spWi K))
    (G_Component_good_deed : FnOk P w K mg base CX0 k T.a_Component_good_deed T.d_Component_good_deed ["self", "sets", "goes"] (spDeed K T.C_Component)) (G_Component_good_island : FnOk P w K mg base CX0 k T.a_Component_good_island T.d_Component_good_island ["island"] (spIsl K))
    (G_good_shape : FnOk P w K mg base CX0 k T.a_good_shape T.d_good_shape ["shape", "level", "names"] (spGsO K)) (G_numbered : FnOk P w K mg base CX0 k T.a_numbered T.d_numbered ["shape"] (spNumb K 6)) :
    FnOk P w K mg base (L2.CX P w) (k + 2) T.a_Component_check_works T.d_Component_check_works ["self"] (spCw K T.C_Component T.C_BadComponent) := by
  refine T.F_Component_check_works.okX sc_Component_check_works (fun vs H Q E h => ?_) (fun cdv A outer s H vs Q E hr h => ?_)
  · obtain ⟨G, M, x, dx, c, f, lk, an, rfl, _⟩ := h
    rfl
  · obtain ⟨G, M, x, dx, c, f, lk, an, rfl, S, fa, gc, hlk, han, c1000, q, qx⟩ := h
    refine ⟨_, (pss_cons (ps_set (i := 1) sc_Component_check_works.nd rfl (.inr rfl) (pe_callTy (call_listK K) (by rfl) T.m_list (by decide +kernel) (pa_cons (pe_fldK K (xv 0)) pa_nil)))
      (pss_cons (xs_if (PW.pt (xw_or (pt_not (xt_truK K (pe_call G_good_rows (hr.mono (by omega)) (by rfl) T.g_good_rows T.F_good_rows.kp T.b_good_rows .nil pass0 (pa_cons (pe_fldK K (xv 0)) (pa_cons pe_int (pa_cons pe_int pa_nil)))))) (pw_or1 (pt_not (xt_truK K (pe_call G_fresh (hr.mono (by omega)) (by rfl) T.g_fresh T.F_fresh.kp T.b_fresh .nil pass0 (pa_cons (pe_lc (own := [("row", 6)]) (by rfl) sc_Component_check_works.nd (pi_tupK K (pe_fldK K (xv 0))) (blkOk_by (N := ["self", "names", "form", "word", "told", "handed", "row", "name", "size", "sets", "goes"]) (sc := defScope s_Component_check_works) (by decide +kernel)) (fun _ _ _ _ _ => (pg_name (i := 6) sc_Component_check_works.nd rfl (.inl rfl))) (fun _ _ _ _ _ => pts_nil) (fun _ _ _ _ _ => (pe_ix (ix_k K) (xv 6) pe_int (fun _ _ => rfl)))) (pa_cons (pe_lst pa_nil) pa_nil))))))))
      (pss_one (ps_raiseX (k := 0) rfl (T.x_BadComponent P pf) (hr.mono (by omega)) (takes_of rfl rfl rfl rfl) (pa_cons pe_str pa_nil)))
      pss_nil)
      (pss_cons (xs_if (pt_not (xt_truK K (pe_callB (cr_allK K rfl) (by rfl) T.m_all (by decide +kernel) (pa_cons (pe_lc (own := [("name", 7), ("size", 8), ("form", 2)]) (by rfl) sc_Component_check_works.nd (pi_tupK K (pe_fldK K (xv 0))) (blkOk_by (N := ["self", "names", "form", "word", "told", "handed", "row", "name", "size", "sets", "goes"]) (sc := defScope s_Component_check_works) (by decide +kernel)) (fun _ _ _ _ _ => (pg_tupK K 3 (pgs_cons (pg_name (i := 7) sc_Component_check_works.nd rfl (.inl rfl)) (pgs_cons (pg_name (i := 8) sc_Component_check_works.nd rfl (.inl rfl)) (pgs_cons (pg_name (i := 2) sc_Component_check_works.nd rfl (.inl rfl)) pgs_nil))))) (fun _ _ _ _ _ => pts_nil) (fun _ _ _ _ _ => (xe_and (pe_call G_is_number (hr.mono (by omega)) (by rfl) T.g_is_number T.F_is_number.kp T.b_is_number .nil pass0 (pa_cons (xv 8) (pa_cons pe_int (pa_cons pe_int pa_nil)))) (pe_one (pe_call G_good_form (hr.mono (by omega)) (by rfl) T.g_good_form T.F_good_form.kp T.b_good_form .nil pass0 (pa_cons (xv 2) (pa_cons (xv 1) pa_nil))))))) pa_nil))))
      (pss_one (ps_raiseX (k := 0) rfl (T.x_BadComponent P pf) (hr.mono (by omega)) (takes_of rfl rfl rfl rfl) (pa_cons pe_str pa_nil)))
      pss_nil)
      (pss_cons (xs_if (PW.pt (xw_or (pt_not (xt_truK K (pe_call G_good_rows (hr.mono (by omega)) (by rfl) T.g_good_rows T.F_good_rows.kp T.b_good_rows .nil pass0 (pa_cons (pe_fldK K (xv 0)) (pa_cons pe_int (pa_cons pe_int pa_nil)))))) (pw_or1 (pt_not (xt_truK K (pe_call G_different (hr.mono (by omega)) (by rfl) T.g_different T.F_different.kp T.b_different .nil pass0 (pa_cons (pe_lc (own := [("row", 6)]) (by rfl) sc_Component_check_works.nd (pi_tupK K (pe_fldK K (xv 0))) (blkOk_by (N := ["self", "names", "form", "word", "told", "handed", "row", "name", "size", "sets", "goes"]) (sc := defScope s_Component_check_works) (by decide +kernel)) (fun _ _ _ _ _ => (pg_name (i := 6) sc_Component_check_works.nd rfl (.inl rfl))) (fun _ _ _ _ _ => pts_nil) (fun _ _ _ _ _ => (pe_ix (ix_k K) (xv 6) pe_int (fun _ _ => rfl)))) pa_nil)))))))
      (pss_one (ps_raiseX (k := 0) rfl (T.x_BadComponent P pf) (hr.mono (by omega)) (takes_of rfl rfl rfl rfl) (pa_cons pe_str pa_nil)))
      pss_nil)
      (pss_cons (ps_for (passes_of rfl) rfl (pi_tupK K (pe_fldK K (xv 0))) (pg_tupK K 3 (pgs_cons (pg_name (i := 3) sc_Component_check_works.nd rfl (.inl rfl)) (pgs_cons (pg_name (i := 2) sc_Component_check_works.nd rfl (.inl rfl)) (pgs_cons (pg_name (i := 4) sc_Component_check_works.nd rfl (.inl rfl)) pgs_nil))))
      (pss_one (xs_if (PW.pt (xw_or (pt_not (xt_truK K (pe_call G_good_form (hr.mono (by omega)) (by rfl) T.g_good_form T.F_good_form.kp T.b_good_form .nil pass0 (pa_cons (xv 2) (pa_cons (xv 1) pa_nil))))) (pw_or1 (pt_not (xt_truK K (pe_smethI (xv 0) T.cl_Component T.si_Component_within G_Component_within (hr.mono (by omega)) T.b_Component_within pass0 (pa_cons (xv 4) (pa_cons (xv 1) pa_nil))))))))
      (pss_one (ps_raiseX (k := 0) rfl (T.x_BadComponent P pf) (hr.mono (by omega)) (takes_of rfl rfl rfl rfl) (pa_cons pe_str pa_nil)))
      pss_nil)))
      (pss_cons (xs_if (PW.pt (xw_or (pt_not (xt_truK K (pe_call G_good_rows (hr.mono (by omega)) (by rfl) T.g_good_rows T.F_good_rows.kp T.b_good_rows .nil pass0 (pa_cons (pe_fldK K (xv 0)) (pa_cons pe_int (pa_cons pe_int pa_nil)))))) (pw_or1 (pt_not (xt_truK K (pe_call G_different (hr.mono (by omega)) (by rfl) T.g_different T.F_different.kp T.b_different .nil pass0 (pa_cons (pe_lc (own := [("row", 6)]) (by rfl) sc_Component_check_works.nd (pi_tupK K (pe_fldK K (xv 0))) (blkOk_by (N := ["self", "names", "form", "word", "told", "handed", "row", "name", "size", "sets", "goes"]) (sc := defScope s_Component_check_works) (by decide +kernel)) (fun _ _ _ _ _ => (pg_name (i := 6) sc_Component_check_works.nd rfl (.inl rfl))) (fun _ _ _ _ _ => pts_nil) (fun _ _ _ _ _ => (pe_ix (ix_k K) (xv 6) pe_int (fun _ _ => rfl)))) pa_nil)))))))
      (pss_one (ps_raiseX (k := 0) rfl (T.x_BadComponent P pf) (hr.mono (by omega)) (takes_of rfl rfl rfl rfl) (pa_cons pe_str pa_nil)))
      pss_nil)
      (pss_cons (xs_if (pt_not (xt_truK K (pe_callB (cr_allK K rfl) (by rfl) T.m_all (by decide +kernel) (pa_cons (pe_lc (own := [("word", 3), ("sets", 9), ("goes", 10)]) (by rfl) sc_Component_check_works.nd (pi_tupK K (pe_fldK K (xv 0))) (blkOk_by (N := ["self", "names", "form", "word", "told", "handed", "row", "name", "size", "sets", "goes"]) (sc := defScope s_Component_check_works) (by decide +kernel)) (fun _ _ _ _ _ => (pg_tupK K 3 (pgs_cons (pg_name (i := 3) sc_Component_check_works.nd rfl (.inl rfl)) (pgs_cons (pg_name (i := 9) sc_Component_check_works.nd rfl (.inl rfl)) (pgs_cons (pg_name (i := 10) sc_Component_check_works.nd rfl (.inl rfl)) pgs_nil))))) (fun _ _ _ _ _ => pts_nil) (fun _ _ _ _ _ => (pe_meth (xv 0) T.cl_Component T.me_Component_good_deed G_Component_good_deed (hr.mono (by omega)) T.b_Component_good_deed .nil pass0 (pa_cons (xv 9) (pa_cons (xv 10) pa_nil))))) pa_nil))))
      (pss_one (ps_raiseX (k := 0) rfl (T.x_BadComponent P pf) (hr.mono (by omega)) (takes_of rfl rfl rfl rfl) (pa_cons pe_str pa_nil)))
      pss_nil)
      (pss_cons (ps_set (i := 5) sc_Component_check_works.nd rfl (.inl rfl) (pe_op op_addY (pe_lc (own := [("row", 6)]) (by rfl) sc_Component_check_works.nd (pi_tupK K (pe_fldK K (xv 0))) (blkOk_by (N := ["self", "names", "form", "word", "told", "handed", "row", "name", "size", "sets", "goes"]) (sc := defScope s_Component_check_works) (by decide +kernel)) (fun _ _ _ _ _ => (pg_name (i := 6) sc_Component_check_works.nd rfl (.inl rfl))) (fun _ _ _ _ _ => pts_nil) (fun _ _ _ _ _ => (pe_ix (ix_k K) (xv 6) pe_int (fun _ _ => rfl)))) (pe_lc (own := [("row", 6)]) (by rfl) sc_Component_check_works.nd (pi_tupK K (pe_fldK K (xv 0))) (blkOk_by (N := ["self", "names", "form", "word", "told", "handed", "row", "name", "size", "sets", "goes"]) (sc := defScope s_Component_check_works) (by decide +kernel)) (fun _ _ _ _ _ => (pg_name (i := 6) sc_Component_check_works.nd rfl (.inl rfl))) (fun _ _ _ _ _ => pts_nil) (fun _ _ _ _ _ => (pe_ix (ix_k K) (xv 6) pe_int (fun _ _ => rfl))))))
      (xss_cut (xs_if (PW.pt (xw_and (xt_cmp op_notN (pe_fldK K (xv 0)) pe_non (nomark _)) (pw_and1 (pt_not (xt_truK K (pe_smethI (xv 0) T.cl_Component T.si_Component_within G_Component_within (hr.mono (by omega)) T.b_Component_within pass0 (pa_cons (pe_fldK K (xv 0)) (pa_cons (xv 5) pa_nil))))))))
      (pss_one (ps_raiseX (k := 0) rfl (T.x_BadComponent P pf) (hr.mono (by omega)) (takes_of rfl rfl rfl rfl) (pa_cons pe_str pa_nil)))
      pss_nil)
      (xss_cut (xs_if (PW.pt (xw_and (xt_cmp op_notN (pe_fldK K (xv 0)) pe_non (nomark _)) (pw_and1 (pt_not (xt_truK K (pe_smethI (xv 0) T.cl_Component T.si_Component_good_island G_Component_good_island (hr.mono (by omega)) T.b_Component_good_island pass0 (pa_cons (pe_fldK K (xv 0)) pa_nil)))))))
      (pss_one (ps_raiseX (k := 0) rfl (T.x_BadComponent P pf) (hr.mono (by omega)) (takes_of rfl rfl rfl rfl) (pa_cons pe_str pa_nil)))
      pss_nil)
      (pss_cons (xs_if (PW.pt (xw_or (pt_not (xt_truK K (pe_call G_good_shape (hr.mono (by omega)) (by rfl) T.g_good_shape T.F_good_shape.kp T.b_good_shape .nil pass0 (pa_cons (pe_fldK K (xv 0)) (pa_cons pe_int (pa_cons (xv 1) pa_nil)))))) (pw_or1 (xt_cmp (notin_seqK K) (pe_ix (ix_k K) (pe_fldK K (xv 0)) pe_int (fun _ _ => rfl)) (pe_tup (pa_cons pe_str (pa_cons pe_str pa_nil))) (by rfl)))))
      (pss_one (ps_raiseX (k := 0) rfl (T.x_BadComponent P pf) (hr.mono (by omega)) (takes_of rfl rfl rfl rfl) (pa_cons pe_str pa_nil)))
      pss_nil)
      (pss_one (xs_if (xt_cmp op_gtY (pe_callB (cr_lenK K) (by rfl) T.m_len (by decide +kernel) (pa_cons (pe_call G_numbered (hr.mono (by omega)) (by rfl) T.g_numbered T.F_numbered.kp T.b_numbered .nil pass0 (pa_cons (pe_fldK K (xv 0)) pa_nil)) pa_nil)) (xe_globI (by rfl) T.v_MOST_SHAPES) (nomark _))
      (pss_one (ps_raiseX (k := 0) rfl (T.x_BadComponent P pf) (hr.mono (by omega)) (takes_of rfl rfl rfl rfl) (pa_cons pe_str pa_nil)))
      pss_nil))))))))))))), ?_⟩
    obtain ⟨p1, x1, e1, hp1, hx1⟩ := dp_tup fa.tk
    obtain ⟨p2, x2, e2, hp2, hx2⟩ := dp_tup fa.he
    obtain ⟨p5, x5, e5, hp5, hx5⟩ := dp_tup fa.gi
    obtain ⟨p6, x6, e6, hp6, hx6⟩ := dp_tup fa.ef
    obtain ⟨p7, x7, e7, hp7, hx7⟩ := dp_tup fa.de
    obtain ⟨pa, xa, rfl, hpa, hxa⟩ := dp_tup han
    obtain rfl := dpa_strs hxa
    have n1 := gc.t2.1
    have n2 := gc.h2.1
    have n5 := gc.g2.1
    have n6 := gc.e2.1
    have n7 := gc.d2.1
    have many := gc.many
    refine ⟨x, T.C_Component, dx, _, _, rfl, S.hd, T.cl_Component, T.na_Component_all_names, Fs.g_all, pa, _, rfl, .inr (S.t hpa), fun l1 nl1 => ?_⟩
    obtain ⟨G1, s1, S1, h1⟩ := Sep.mk (o := .lst (c.names.map V.str)) S nl1
    refine ⟨x, T.C_Component, dx, _, _, rfl, S1.hd, T.cl_Component, T.na_Component_gives, Fs.g_gives, G1, _, f.gi, c.gives.map dGive, 2, 3, rfl, S1, dp_same s1 fa.gi, by rw [List.length_map]; exact n5, by rw [List.length_map]; omega, by decide, fun d hd => ?_, fun G2 H2 s2 S2 => ⟨ff, fun _ => ?_⟩⟩
    · obtain ⟨z, _, rfl⟩ := List.mem_map.mp hd
      exact ⟨_, rfl, rfl⟩
    have t2 := s1.trans s2
    refine ⟨x, T.C_Component, dx, _, _, rfl, S2.hd, T.cl_Component, T.na_Component_gives, Fs.g_gives, p5, e5, ⟨_, S2.t (same_t t2 hp5)⟩, fun D nD => lc_names S2 nD (same_t t2 hp5) (dpa_same t2 hx5) (fun r => ⟨_, rfl⟩) (by omega) (fun G3 H3 s3 S3 => ⟨sz, fun l4 n4 => ?_⟩)⟩
    obtain ⟨G4, s4, S4, hD⟩ := Sep.keep S3
    obtain ⟨G5, s5, S5, h5⟩ := Sep.mk (o := .lst []) S4 n4
    refine ⟨G5, _, D, l4, c.gives.map (·.1), [], rfl, S5, SqL.of (s5 _ _ hD), SqL.of h5, by rw [List.length_map]; omega, gc.g1, fun G6 H6 s6 S6 => ⟨ff, fun _ => ?_⟩⟩
    have t26 := s2.trans (s3.trans (s4.trans (s5.trans s6)))
    have t6 := s1.trans t26
    have h6 := t26 _ _ h1
    clear S1 S2 S3 S4 S5 h5 hD
    refine ⟨x, T.C_Component, dx, _, _, rfl, S6.hd, T.cl_Component, T.na_Component_gives, Fs.g_gives, p5, e5, ⟨_, S6.t (same_t t6 hp5)⟩, fun D2 nD2 => lc_dpT S6 nD2 (same_t t6 hp5) (dpa_same t6 hx5) (List.replicate c.gives.length (.bool true)) (by simp) (by rw [List.length_map]; omega) (fun i y e d G7 H7 us R he hd hxe s7 S7 hR => ?_) (fun G7 H7 us s7 S7 hw => ?_)⟩
    · rw [rep_get hd] at hR
      rw [List.getElem?_map] at he
      obtain ⟨r, hr1, rfl⟩ := Option.map_eq_some_iff.mp he
      obtain ⟨a, ys, rfl, ha, hy⟩ := dp_tup hxe
      obtain ⟨y1, r1, rfl, hy1, hy⟩ := dpa_cons hy
      obtain ⟨y2, r2, rfl, hy2, hy⟩ := dpa_cons hy
      obtain ⟨y3, r3, rfl, hy3, hy⟩ := dpa_cons hy
      obtain rfl := dpa_nil hy
      obtain rfl := dp_int hy2
      have hb := gc.g2.2 r (List.mem_of_getElem? hr1)
      exact ⟨a, _, rfl, S7.t ha, rfl, _, _, rfl, _, _, rfl, _, _, rfl, rfl, rfl, _, _, _, rfl, hb.1, hb.2.1, fun _ => ⟨G7, _, y3, _, l1, c.names, rfl, S7, hy3, ⟨_, rfl, hb.2.2⟩, gc.lt, by omega, SqL.of (s7 _ _ h6), fun G8 H8 s8 S8 => hR _ G8 H8 s8 S8 (.bl true)⟩, tt⟩
    rw [dpa_yes hw] at S7
    refine ⟨D2, List.replicate c.gives.length true, rfl, SqL.of S7.hd, ?_⟩
    rw [all_yes]
    refine ⟨ff, fun _ => ?_⟩
    have S7 := S7.drop
    have t7 := t6.trans s7
    have h7 := s7 _ _ h6
    clear S6 hw h6 t26
    -- effects
    refine ⟨x, T.C_Component, dx, _, _, rfl, S7.hd, T.cl_Component, T.na_Component_effects, Fs.g_effects, G7, _, f.ef, c.effs.map dEff, 2, 3, rfl, S7, dp_same t7 fa.ef, by rw [List.length_map]; exact n6, by rw [List.length_map]; omega, by decide, fun d hd => ?_, fun G8 H8 s8 S8 => ⟨ff, fun _ => ?_⟩⟩
    · obtain ⟨z, _, rfl⟩ := List.mem_map.mp hd
      exact ⟨_, rfl, rfl⟩
    have t8 := t7.trans s8
    refine ⟨x, T.C_Component, dx, _, _, rfl, S8.hd, T.cl_Component, T.na_Component_effects, Fs.g_effects, p6, e6, ⟨_, S8.t (same_t t8 hp6)⟩, fun D3 nD3 => lc_names S8 nD3 (same_t t8 hp6) (dpa_same t8 hx6) (fun r => ⟨_, rfl⟩) (by omega) (fun G9 H9 s9 S9 => ?_)⟩
    obtain ⟨G10, s10, S10, h10⟩ := Sep.keep S9
    refine ⟨G10, _, D3, c.effs.map (·.1), rfl, S10, .inl (SqL.of h10), by rw [List.length_map]; omega, gc.e1, fun G11 H11 s11 S11 => ⟨ff, fun _ => ?_⟩⟩
    have t711 := s8.trans (s9.trans (s10.trans s11))
    have t11 := t7.trans t711
    have h11 := t711 _ _ h7
    clear S7 S8 S9 S10 h10 h7 t711
    refine ⟨x, T.C_Component, dx, _, _, rfl, S11.hd, T.cl_Component, T.na_Component_effects, Fs.g_effects, p6, e6, ⟨_, S11.t (same_t t11 hp6)⟩, for_tup (xs := x6) (fun i σ H' => ∃ (y2 y3 y4 : Option V) (G' : Hp), σ = [some (.ref x), some (.ref l1), y2, y3, y4, none, none, none, none, none, none] ∧ Same G11 G' ∧ Sep G' ((x, .ins T.C_Component dx (f.l c [("all_names", .ref pa)])) :: M) H')
      ⟨_, _, _, G11, rfl, Same.refl _, S11⟩ (fun i σ H' _ h => ?_) (fun i y σ H' hx h => ?_) (fun σ H' h => ?_)⟩
    · obtain ⟨_, _, _, G', _, s', S'⟩ := h
      exact S'.t (same_t s' (same_t t11 hp6))
    · obtain ⟨y2, y3, y4, G', rfl, s', S'⟩ := h
      obtain ⟨d, hd, hyd⟩ := dpa_get hx6 hx
      rw [List.getElem?_map] at hd
      obtain ⟨r, hr1, rfl⟩ := Option.map_eq_some_iff.mp hd
      obtain ⟨a, ys, rfl, ha, hy⟩ := dp_tup (dp_same (t11.trans s') hyd)
      obtain ⟨z1, r1, rfl, hz1, hy⟩ := dpa_cons hy
      obtain ⟨z2, r2, rfl, hz2, hy⟩ := dpa_cons hy
      obtain ⟨z3, r3, rfl, hz3, hy⟩ := dpa_cons hy
      obtain rfl := dpa_nil hy
      obtain ⟨g1, g2, g3⟩ := gc.e2.2 r (List.mem_of_getElem? hr1)
      have rl := nodup_sub g2 g3
      refine ⟨a, _, rfl, S'.t ha, rfl, _, _, rfl, _, _, rfl, _, _, rfl, rfl, ?_⟩
      refine ⟨G', _, z2, r.2.1.dat, l1, c.names, rfl, S', hz2, ⟨_, rfl, g1⟩, gc.lt, by omega, SqL.of (s' _ _ h11), fun G20 H20 s20 S20 => ⟨ff, fun _ => ?_⟩⟩
      exact ⟨x, dx, _, rfl, S20.hd, Fs.n_within, G20, _, z3, r.2.2, l1, c.names, rfl, S20, dp_same s20 hz3, ⟨fun z hz => gc.lt z (g3 z hz), g2⟩, by omega, SqL.of (s20 _ _ (s' _ _ h11)), g3, fun G21 H21 s21 S21 => ⟨ff, fun _ => ⟨_, _, _, G21, rfl, s'.trans (s20.trans s21), S21⟩⟩⟩
    obtain ⟨y2, y3, y4, G', rfl, s', S12⟩ := h
    have t12 := t11.trans s'
    have h12 := s' _ _ h11
    clear S11 h11
    -- deeds
    refine ⟨x, T.C_Component, dx, _, _, rfl, S12.hd, T.cl_Component, T.na_Component_deeds, Fs.g_deeds, G', _, f.de, c.deeds.map dDeed, 14, 3, rfl, S12, dp_same t12 fa.de, by rw [List.length_map]; exact n7, by rw [List.length_map]; omega, by decide, fun d hd => ?_, fun G13 H13 s13 S13 => ⟨ff, fun _ => ?_⟩⟩
    · obtain ⟨z, _, rfl⟩ := List.mem_map.mp hd
      exact ⟨_, rfl, rfl⟩
    have t13 := t12.trans s13
    refine ⟨x, T.C_Component, dx, _, _, rfl, S13.hd, T.cl_Component, T.na_Component_deeds, Fs.g_deeds, p7, e7, ⟨_, S13.t (same_t t13 hp7)⟩, fun D5 nD5 => lc_names S13 nD5 (same_t t13 hp7) (dpa_same t13 hx7) (fun r => ⟨_, rfl⟩) (by omega) (fun G14 H14 s14 S14 => ?_)⟩
    obtain ⟨G15, s15, S15, h15⟩ := Sep.keep S14
    refine ⟨G15, _, D5, c.deeds.map (·.1), rfl, S15, .inl (SqL.of h15), by rw [List.length_map]; omega, gc.d1, fun G16 H16 s16 S16 => ⟨ff, fun _ => ?_⟩⟩
    have t1216 := s13.trans (s14.trans (s15.trans s16))
    have t16 := t12.trans t1216
    have h16 := t1216 _ _ h12
    clear S12 S13 S14 S15 h15 h12 t1216
    refine ⟨x, T.C_Component, dx, _, _, rfl, S16.hd, T.cl_Component, T.na_Component_deeds, Fs.g_deeds, p7, e7, ⟨_, S16.t (same_t t16 hp7)⟩, fun D6 nD6 => lc_dpT S16 nD6 (same_t t16 hp7) (dpa_same t16 hx7) (List.replicate c.deeds.length (.bool true)) (by simp) (by rw [List.length_map]; omega) (fun i y e d G7 H7 us R he hd hxe s7 S7 hR => ?_) (fun G17 H17 us s17 S17 hw => ?_)⟩
    · rw [rep_get hd] at hR
      rw [List.getElem?_map] at he
      obtain ⟨r, hr1, rfl⟩ := Option.map_eq_some_iff.mp he
      obtain ⟨a, ys, rfl, ha, hy⟩ := dp_tup hxe
      obtain ⟨z1, r1, rfl, hz1, hy⟩ := dpa_cons hy
      obtain ⟨z2, r2, rfl, hz2, hy⟩ := dpa_cons hy
      obtain ⟨z3, r3, rfl, hz3, hy⟩ := dpa_cons hy
      obtain rfl := dpa_nil hy
      obtain rfl := dp_bl hz3
      refine ⟨a, _, rfl, S7.t ha, rfl, _, _, rfl, _, _, rfl, _, _, rfl, rfl, rfl, x, dx, _, rfl, S7.sw.hd, Fs.n_good_deed, ?_⟩
      exact ⟨G7, _, x, dx, c, f, lk, .ref pa, z2, r, rfl, S7.sw, fa.same (t16.trans s7), dp_same (t16.trans s7) han, gc, gc.d2.2 r (List.mem_of_getElem? hr1), hz2, fun G8 H8 s8 S8 => hR _ G8 H8 s8 S8.sw (.bl true)⟩
    rw [dpa_yes hw] at S17
    refine ⟨D6, List.replicate c.deeds.length true, rfl, SqL.of S17.hd, ?_⟩
    rw [all_yes]
    refine ⟨ff, fun _ => ?_⟩
    have S17 := S17.drop
    have t17 := t16.trans s17
    have h17 := s17 _ _ h16
    clear S16 hw h16
    -- handed
    refine ⟨x, T.C_Component, dx, _, _, rfl, S17.hd, T.cl_Component, T.na_Component_takes, Fs.g_takes, p1, e1, ⟨_, S17.t (same_t t17 hp1)⟩, fun D7 nD7 => lc_names S17 nD7 (same_t t17 hp1) (dpa_same t17 hx1) (fun r => ⟨_, rfl⟩) (by omega) (fun G18 H18 s18 S18 => ?_)⟩
    obtain ⟨G19, s19, S19, h19⟩ := Sep.keep S18
    have t19 := t17.trans (s18.trans s19)
    refine ⟨x, T.C_Component, dx, _, _, rfl, S19.hd, T.cl_Component, T.na_Component_hears, Fs.g_hears, p2, e2, ⟨_, S19.t (same_t t19 hp2)⟩, fun D8 nD8 => lc_names S19 nD8 (same_t t19 hp2) (dpa_same t19 hx2) (fun r => ⟨_, rfl⟩) (by omega) (fun G20 H20 s20 S20 => ?_)⟩
    refine ⟨D7, D8, _, _, rfl, rfl, S20.st (s20 _ _ h19), S20.hd, by rw [List.length_map, List.length_map, List.length_map, List.length_map]; exact small (by omega), fun l21 n21 => ?_⟩
    have e21 : (c.takes.map (·.1)).map V.str ++ (c.hears.map (·.1)).map V.str = c.handed.map V.str := by rw [← List.map_append]; rfl
    rw [e21]
    obtain ⟨G21, s21, S21, h21⟩ := Sep.mk (o := .lst (c.handed.map V.str)) S20 n21
    have S21 := S21.drop
    have t1721 := s18.trans (s19.trans (s20.trans s21))
    have t21 := t17.trans t1721
    have hl21 := t1721 _ _ h17
    clear S17 S18 S19 S20 h17 t1721
    obtain ⟨ash, rsh, esh, hash, hrsh⟩ := shp_at fa.sh
    refine ⟨fun σ H' => ∃ (G' : Hp), σ = [some (.ref x), some (.ref l1), y2, y3, y4, some (.ref l21), none, none, none, none, none] ∧ Same G21 G' ∧ Sep G' ((x, .ins T.C_Component dx (f.l c [("all_names", .ref pa)])) :: M) H', ?_, fun σ H' h => ?_⟩
    · refine ⟨x, T.C_Component, dx, _, _, rfl, S21.hd, T.cl_Component, T.na_Component_looks, Fs.g_looks, rfl, ?_⟩
      have hlo := fa.lo
      rcases hlk with rfl | rfl
      · have e1 : (!decide (f.lo = V.non)) = false := by rw [dp_non hlo]; rfl
        refine ⟨fun e => ?_, fun _ => ⟨ff, fun _ => ⟨G21, rfl, Same.refl _, S21⟩⟩⟩
        have e2 : (!decide (f.lo = V.non)) = true := e
        rw [e1] at e2
        cases e2
      · obtain ⟨po, xo, eo, hpo, hxo⟩ := dp_tup hlo
        have e1 : (!decide (f.lo = V.non)) = true := by rw [eo]; rfl
        have ll := nodup_sub gc.l1.1 gc.l1.2
        refine ⟨fun _ => ?_, fun e => ?_⟩
        · exact ⟨x, dx, _, rfl, S21.hd, Fs.n_within, x, T.C_Component, dx, _, _, rfl, S21.hd, T.cl_Component, T.na_Component_looks, Fs.g_looks, G21, _, f.lo, c.looks, l21, c.handed, rfl, S21, dp_same t21 hlo, ⟨fun z hz => gc.lt z (List.mem_append_left _ (List.mem_append_left _ (gc.l1.2 z hz))), gc.l1.1⟩, by simp only [Cp.handed, List.length_append, List.length_map] at ll; omega, SqL.of h21, gc.l1.2, fun G22 H22 s22 S22 => ⟨ff, fun _ => ⟨G22, rfl, s22, S22⟩⟩⟩
        · have e2 : (!decide (f.lo = V.non)) = false := e
          rw [e1] at e2
          cases e2
    obtain ⟨G22, rfl, s22, S22⟩ := h
    have t22 := t21.trans s22
    have h22 := s22 _ _ hl21
    clear S21 h21 hl21
    refine ⟨fun σ H' => ∃ (G' : Hp), σ = [some (.ref x), some (.ref l1), y2, y3, y4, some (.ref l21), none, none, none, none, none] ∧ Same G22 G' ∧ Sep G' ((x, .ins T.C_Component dx (f.l c [("all_names", .ref pa)])) :: M) H', ?_, fun σ H' h => ?_⟩
    · refine ⟨x, T.C_Component, dx, _, _, rfl, S22.hd, T.cl_Component, T.na_Component_island, Fs.g_island, rfl, ?_⟩
      have hil := fa.il
      cases hi : c.isl with
      | none =>
        rw [hi] at hil
        have e1 : (!decide (f.il = V.non)) = false := by rw [dp_non hil]; rfl
        refine ⟨fun e => ?_, fun _ => ⟨ff, fun _ => ⟨G22, rfl, Same.refl _, S22⟩⟩⟩
        have e2 : (!decide (f.il = V.non)) = true := e
        rw [e1] at e2
        cases e2
      | some r =>
        rw [hi] at hil
        obtain ⟨po, xo, eo, hpo, hxo⟩ := dp_tup hil
        have e1 : (!decide (f.il = V.non)) = true := by rw [eo]; rfl
        refine ⟨fun _ => ?_, fun e => ?_⟩
        · exact ⟨x, dx, _, rfl, S22.hd, Fs.n_good_island, x, T.C_Component, dx, _, _, rfl, S22.hd, T.cl_Component, T.na_Component_island, Fs.g_island, G22, _, f.il, r, rfl, S22, dp_same t22 hil, gc.i1 r hi, fun G23 H23 s23 S23 => ⟨ff, fun _ => ⟨G23, rfl, s23, S23⟩⟩⟩
        · have e2 : (!decide (f.il = V.non)) = false := e
          rw [e1] at e2
          cases e2
    obtain ⟨G23, rfl, s23, S23⟩ := h
    have t23 := t22.trans s23
    have h23 := s23 _ _ h22
    clear S22 h22
    rcases gc.s1 with gs1 | ⟨col, ps, ecs, big⟩
    rotate_left 1
    · have ml := many_le ps
      have cc := cnt_eq c.shape
      rw [ecs] at cc
      have cc : cnt (.line col ps) = (numbs ps).length + 1 := cc
      have dsh := fa.sh
      rw [ecs] at dsh
      exact ⟨x, T.C_Component, dx, _, _, rfl, S23.hd, T.cl_Component, T.na_Component_shape, Fs.g_shape, Or.inr ⟨G23, _, f.sh, col, ps, 1, l1, rfl, S23, dp_same t23 dsh, big, by omega, fun G24 H24 s24 S24 => ⟨fun _ => ⟨fun _ => ⟨_, rfl, rp_word (by decide +kernel), fun d nd => qx (by rw [ecs]; omega) G24 _ [] d (t23.trans s24) S24 nd⟩, tt⟩, fun e => (nomatch e)⟩⟩⟩
    refine ⟨x, T.C_Component, dx, _, _, rfl, S23.hd, T.cl_Component, T.na_Component_shape, Fs.g_shape, Or.inl ⟨G23, _, f.sh, c.shape, 1, l1, c.names, rfl, S23, dp_same t23 fa.sh, gc.sh, by have := gc.sh; omega, gs1, ⟨gc.lt, by omega⟩, h23, fun G24 H24 s24 S24 => ⟨ff, fun _ => ?_⟩⟩⟩
    have t24 := t23.trans s24
    refine ⟨x, T.C_Component, dx, _, V.ref ash, rfl, S24.hd, T.cl_Component, T.na_Component_shape, by rw [← esh]; exact Fs.g_shape, _, _, .inr (S24.t (same_t t24 hash)), at0, sz, fun t25' n25 => ?_⟩
    obtain ⟨G25, s25, S25, h25⟩ := Sep.mk (o := .tup [.str "row", .str "col"]) S24 n25
    have t25 := t24.trans s25
    refine ⟨t25', _, rfl, .inr (SqT.of upd_same), rfl, rfl, fun e => ?_, fun _ => ?_⟩
    · have e2 : (!inV (.str (word c.shape)) ((["row", "col"] : List Str).map V.str)) = true := e
      obtain ⟨col, ps, es⟩ := gc.s2
      have hw : word c.shape ∈ (["row", "col"] : List Str) := by
        rw [es]
        rcases line_word (c := col) with z | z
        · exact List.mem_cons.mpr (.inl z)
        · exact List.mem_cons.mpr (.inr (List.mem_singleton.mpr z))
      rw [inV_str, decide_eq_true hw] at e2
      cases e2
    · refine ⟨x, T.C_Component, dx, _, _, rfl, S25.hd, T.cl_Component, T.na_Component_shape, Fs.g_shape, G25, _, f.sh, c.shape, rfl, S25, dp_same t25 fa.sh, by have := gc.sh; omega, c1000, fun v' G26 H26 s26 hv' S26 => ?_⟩
      obtain ⟨a', us, rfl, ha', hus⟩ := dp_tup hv'
      have ul := dpa_len hus
      rw [List.length_map] at ul
      have ul : us.length = cnt c.shape := ul
      refine ⟨_, .inr (S26.t ha'), fun e => ?_, fun e => ?_⟩
      · have e2 := of_decide_eq_true e
        exact ⟨_, rfl, rp_word (by decide +kernel), fun d nd => qx (by omega) G26 _ [] d (t25.trans s26) S26 nd⟩
      · have e2 := of_decide_eq_false e
        exact q (by omega) _ _ (t25.trans s26) S26

end
end K57
set_option Elab.async false
set_option linter.all false
set_option maxRecDepth 100000
set_option maxHeartbeats 4000000
namespace K57
open PySem PySem.Spec PyProof.Rows L2 XL
section
variable {P : Program} {w : World} {K : PySem.W.Frag} {mg : Str → Option Value} {base : Heap}
/-! ### Component(..) -/
def innerD (s : Sh) : PyData := .tuple ((numb s).zipIdx.map fun p => intsD (pnums ((p.2 : Nat) + 1) (parts p.1)))
def shapesD (s : Sh) : PyData := .tuple ((numb s).map toD)
def deedsK (c : Cp) (xs : List V) : List (Key × V) := (c.deeds.map fun r => (Sum.inr r.1 : Key)).zip xs
def Fs.rest (an vs vi vd : V) : List (Str × V) := [("all_names", an), ("shapes", vs), ("inner", vi), ("deeds_by", vd)]
structure CpAt (K : PySem.W.Frag) (C : Addr) (G : Hp) (x : Addr) (c : Cp) : Prop where
  ex : ∃ (dx : Addr) (f : Fs) (an vs vi : V) (db : Addr) (xs : List V), G x = some (.ins C dx (f.l c (Fs.rest an vs vi (.ref db)))) ∧ FsAt K G c f (strsD c.looks) ∧ Dp K G an (strsD c.names) ∧ Dp K G vs (shapesD c.shape) ∧ Dp K G vi (innerD c.shape) ∧
    DpAll K G xs (c.deeds.map dDeed) ∧ G db = some (.dK (deedsK c xs))
theorem CpAt.same {K : PySem.W.Frag} {C : Addr} {G G' : Hp} {x : Addr} {c : Cp} (e : Same G G') (h : CpAt K C G x c) : CpAt K C G' x c := by
  obtain ⟨dx, f, an, vs, vi, db, xs, h1, h2, h3, h4, h5, h6, h7⟩ := h.ex
  exact ⟨dx, f, an, vs, vi, db, xs, e _ _ h1, h2.same e, dp_same e h3, dp_same e h4, dp_same e h5, dpa_same e h6, e _ _ h7⟩
def spCi (K : PySem.W.Frag) (C Cb : Addr) : Sp := fun vs H Q E => ∃ (G : Hp) (M : List (Addr × HO)) (x dx : Addr) (c : Cp) (f : Fs) (lk : PyData), vs = [.ref x, .str c.name, f.sh, f.tk, f.he, f.ce, f.ak, f.gi, f.ef, f.de, f.lo, f.il] ∧ Sep G ((x, .ins C dx []) :: M) H ∧ FsAt K G c f lk ∧ GdC c ∧
  (lk = .none ∧ c.looks = c.handed ∨ lk = strsD c.looks) ∧ cnt c.shape ≤ 1000 ∧
  (cnt c.shape ≤ 16 → ∀ (G' H' : Hp), Same G G' → CpAt K C G' x c → Sep G' M H' → Q .non H') ∧
  (16 < cnt c.shape → ∀ (G' H' : Hp) (N : List (Addr × HO)) (dd : Addr), Same G G' → Sep G' (N ++ M) H' → H' dd = none → E (.ref Cb) (some dd) (upd H' dd (.xd [("part", .str "shape")])))
theorem valV_nn {kvs : List (Key × V)} {k : Key} (h : k ∉ kvs.map (·.1)) : valV kvs k = none := by
  induction kvs with
  | nil => rfl
  | cons p r ih =>
    rw [List.map_cons, List.mem_cons, not_or] at h
    rw [valV_neg (fun e => h.1 e.symm)]
    exact ih h.2
theorem putK_nw {kvs : List (Key × V)} {k : Key} {v : V} (h : valV kvs k = none) : putK kvs k v = kvs ++ [(k, v)] := by
  unfold putK
  rw [valV_any, h]
  rfl
theorem walk_enumT {K : PySem.W.Frag} {a : Addr} {xs : List V} : Walk (IteT K a) xs.length (fun H => SqT K H a xs) (YPair (fun i => some (.int (i : Nat))) (fun i => xs[i]?)) := by
  refine ⟨fun i _ hi q => ⟨xs, xs[i], q, by simp [hi]⟩, fun _ q => ⟨xs, q, Nat.le_refl _⟩, fun i H v H' _ q y => ?_⟩
  obtain ⟨T, x, h1, h2, h3, h4⟩ := y
  exact ⟨T, .int (i : Nat), x, h1, h2, h3, rfl, h4 xs q⟩
theorem Fs.p_shapes {c : Cp} {f : Fs} {an v : V} : putF "shapes" v (f.l c [("all_names", an)]) = f.l c [("all_names", an), ("shapes", v)] := by
  unfold Fs.l
  rw [putF_ne, putF_ne, putF_ne, putF_ne, putF_ne, putF_ne, putF_ne, putF_ne, putF_ne, putF_ne, putF_ne, putF_ne, putF_nil]
theorem Fs.p_inner {c : Cp} {f : Fs} {an v u : V} : putF "inner" v (f.l c [("all_names", an), ("shapes", u)]) = f.l c [("all_names", an), ("shapes", u), ("inner", v)] := by
  unfold Fs.l
  rw [putF_ne, putF_ne, putF_ne, putF_ne, putF_ne, putF_ne, putF_ne, putF_ne, putF_ne, putF_ne, putF_ne, putF_ne, putF_ne, putF_nil]
theorem Fs.p_by {c : Cp} {f : Fs} {an v u w : V} : putF "deeds_by" v (f.l c [("all_names", an), ("shapes", u), ("inner", w)]) = f.l c [("all_names", an), ("shapes", u), ("inner", w), ("deeds_by", v)] := by
  unfold Fs.l
  rw [putF_ne, putF_ne, putF_ne, putF_ne, putF_ne, putF_ne, putF_ne, putF_ne, putF_ne, putF_ne, putF_ne, putF_ne, putF_ne, putF_ne, putF_nil]
theorem Fs.p_looks {c : Cp} {f : Fs} {an v : V} : putF "looks" v (f.l c [("all_names", an)]) = ({ f with lo := v } : Fs).l c [("all_names", an)] := by
  unfold Fs.l
  rw [putF_ne, putF_ne, putF_ne, putF_ne, putF_ne, putF_ne, putF_ne, putF_ne, putF_ne, putF_eq]
theorem Fs.g_shapes {c : Cp} {f : Fs} {r : List (Str × V)} {an v : V} : (f.l c (("all_names", an) :: ("shapes", v) :: r)).lookup ("shapes" : Str) = some v := by
  unfold Fs.l
  rw [lk_ne, lk_ne, lk_ne, lk_ne, lk_ne, lk_ne, lk_ne, lk_ne, lk_ne, lk_ne, lk_ne, lk_ne, lk_eq]
theorem ok_Component_init (T : Top K mg w) (pf : PySem.XExc.PF P T.x_file) {k : Nat} (G_Component_check_told : FnOk P w K mg base CX0 (k + 1) T.a_Component_check_told T.d_Component_check_told ["self"] (spCt K T.C_Component))
    (G_Component_check_works : FnOk P w K mg base (L2.CX P w) (k + 1) T.a_Component_check_works T.d_Component_check_works ["self"] (spCw K T.C_Component T.C_BadComponent)) (G_numbered : FnOk P w K mg base CX0 (k + 1) T.a_numbered T.d_numbered ["shape"] (spNumb K 6))
    (G_part_numbers : FnOk P w K mg base CX0 (k + 1) T.a_part_numbers T.d_part_numbers ["shape", "number"] (spPn K)) :
    FnOk P w K mg base (L2.CX P w) (k + 2) T.a_Component_init T.d_Component_init ["self", "name", "shape", "takes", "hears", "cells", "asks", "gives", "effects", "deeds", "looks", "island"] (spCi K T.C_Component T.C_BadComponent) := by
  refine T.F_Component_init.ok sc_Component_init (fun vs H Q E h => ?_) (fun cdv A outer s H vs Q E hr h => ?_)
  · obtain ⟨G, M, x, dx, c, f, lk, rfl, _⟩ := h
    rfl
  · obtain ⟨G, M, x, dx, c, f, lk, rfl, S0, fa, gc, hlk, c1000, q, qx⟩ := h
    refine ⟨_, (pss_cons (ps_fld (xv 0) (xv 1) rfl)
      (pss_cons (ps_fld (xv 0) (xv 2) rfl)
      (pss_cons (ps_fld (xv 0) (xv 3) rfl)
      (pss_cons (ps_fld (xv 0) (xv 4) rfl)
      (pss_cons (ps_fld (xv 0) (xv 5) rfl)
      (pss_cons (ps_fld (xv 0) (xv 6) rfl)
      (pss_cons (ps_fld (xv 0) (xv 7) rfl)
      (pss_cons (ps_fld (xv 0) (xv 8) rfl)
      (pss_cons (ps_fld (xv 0) (xv 9) rfl)
      (pss_cons (ps_fld (xv 0) (xv 10) rfl)
      (pss_cons (ps_fld (xv 0) (xv 11) rfl)
      (pss_cons (ps_fld (xv 0) (pe_tup pa_nil) rfl)
      (pss_cons (ps_expr (pe_meth0 (xv 0) T.cl_Component T.me_Component_check_told G_Component_check_told (hr.mono (by omega)) T.b_Component_check_told .nil pass0))
      (pss_cons (ps_expr (pe_meth0 (xv 0) T.cl_Component T.me_Component_check_works G_Component_check_works (hr.mono (by omega)) T.b_Component_check_works .nil (passO (takes_of rfl rfl rfl rfl))))
      (xss_cut (xs_if (xt_cmp op_isN (xv 10) pe_non (nomark _))
      (pss_one (ps_fld (xv 0) (pe_callTy (call_tupleK K) (by rfl) T.m_tuple (by decide +kernel) (pa_cons (pe_op op_addY (pe_lc (own := [("row", 15)]) (by rfl) sc_Component_init.nd (pi_tupK K (xv 3)) (blkOk_by (N := ["self", "name", "shape", "takes", "hears", "cells", "asks", "gives", "effects", "deeds", "looks", "island", "deed", "number", "part", "row"]) (sc := defScope s_Component_init) (by decide +kernel)) (fun _ _ _ _ _ => (pg_name (i := 15) sc_Component_init.nd rfl (.inl rfl))) (fun _ _ _ _ _ => pts_nil) (fun _ _ _ _ _ => (pe_ix (ix_k K) (xv 15) pe_int (fun _ _ => rfl)))) (pe_lc (own := [("row", 15)]) (by rfl) sc_Component_init.nd (pi_tupK K (xv 4)) (blkOk_by (N := ["self", "name", "shape", "takes", "hears", "cells", "asks", "gives", "effects", "deeds", "looks", "island", "deed", "number", "part", "row"]) (sc := defScope s_Component_init) (by decide +kernel)) (fun _ _ _ _ _ => (pg_name (i := 15) sc_Component_init.nd rfl (.inl rfl))) (fun _ _ _ _ _ => pts_nil) (fun _ _ _ _ _ => (pe_ix (ix_k K) (xv 15) pe_int (fun _ _ => rfl))))) pa_nil)) rfl))
      pss_nil)
      (pss_cons (ps_fld (xv 0) (pe_call G_numbered (hr.mono (by omega)) (by rfl) T.g_numbered T.F_numbered.kp T.b_numbered .nil pass0 (pa_cons (xv 2) pa_nil)) rfl)
      (pss_cons (ps_fld (xv 0) (pe_callTy (call_tupleK K) (by rfl) T.m_tuple (by decide +kernel) (pa_cons (pe_lc (own := [("number", 13), ("part", 14)]) (by rfl) sc_Component_init.nd (pi_enumT (by rfl) T.m_enumerate (pa_cons (pe_fldK K (xv 0)) pa_nil)) (blkOk_by (N := ["self", "name", "shape", "takes", "hears", "cells", "asks", "gives", "effects", "deeds", "looks", "island", "deed", "number", "part", "row"]) (sc := defScope s_Component_init) (by decide +kernel)) (fun _ _ _ _ _ => (pg_tupK K 2 (pgs_cons (pg_name (i := 13) sc_Component_init.nd rfl (.inl rfl)) (pgs_cons (pg_name (i := 14) sc_Component_init.nd rfl (.inl rfl)) pgs_nil)))) (fun _ _ _ _ _ => pts_nil) (fun _ _ _ _ _ => (pe_call G_part_numbers (hr.mono (by omega)) (by rfl) T.g_part_numbers T.F_part_numbers.kp T.b_part_numbers .nil pass0 (pa_cons (xv 14) (pa_cons (xv 13) pa_nil))))) pa_nil)) rfl)
      (pss_one (ps_fld (xv 0) (pe_dc (own := [("deed", 12)]) (by rfl) sc_Component_init.nd (pi_tupK K (xv 9)) (blkOk_by (N := ["self", "name", "shape", "takes", "hears", "cells", "asks", "gives", "effects", "deeds", "looks", "island", "deed", "number", "part", "row"]) (sc := defScope s_Component_init) (by decide +kernel)) (fun _ _ _ _ _ => (pg_name (i := 12) sc_Component_init.nd rfl (.inl rfl))) (fun _ _ _ _ _ => pts_nil) (fun _ _ _ _ _ => (pe_ix (ix_k K) (xv 12) pe_int (fun _ _ => rfl))) (fun _ _ _ _ _ => (xv 12))) rfl))))))))))))))))))), ?_⟩
    refine ⟨x, T.C_Component, dx, _, rfl, S0.hd, T.cl_Component, T.na_Component_name, by simp, ?_⟩
    rw [putF_nil]
    have S1 := S0.set (o' := .ins T.C_Component dx [("name", .str c.name)])
    refine ⟨x, T.C_Component, dx, _, rfl, S1.hd, T.cl_Component, T.na_Component_shape, by simp, ?_⟩
    rw [putF_ne, putF_nil]
    have S2 := S1.set (o' := .ins T.C_Component dx [("name", .str c.name), ("shape", f.sh)])
    refine ⟨x, T.C_Component, dx, _, rfl, S2.hd, T.cl_Component, T.na_Component_takes, by simp, ?_⟩
    rw [putF_ne, putF_ne, putF_nil]
    have S3 := S2.set (o' := .ins T.C_Component dx [("name", .str c.name), ("shape", f.sh), ("takes", f.tk)])
    refine ⟨x, T.C_Component, dx, _, rfl, S3.hd, T.cl_Component, T.na_Component_hears, by simp, ?_⟩
    rw [putF_ne, putF_ne, putF_ne, putF_nil]
    have S4 := S3.set (o' := .ins T.C_Component dx [("name", .str c.name), ("shape", f.sh), ("takes", f.tk), ("hears", f.he)])
    refine ⟨x, T.C_Component, dx, _, rfl, S4.hd, T.cl_Component, T.na_Component_cells, by simp, ?_⟩
    rw [putF_ne, putF_ne, putF_ne, putF_ne, putF_nil]
    have S5 := S4.set (o' := .ins T.C_Component dx [("name", .str c.name), ("shape", f.sh), ("takes", f.tk), ("hears", f.he), ("cells", f.ce)])
    refine ⟨x, T.C_Component, dx, _, rfl, S5.hd, T.cl_Component, T.na_Component_asks, by simp, ?_⟩
    rw [putF_ne, putF_ne, putF_ne, putF_ne, putF_ne, putF_nil]
    have S6 := S5.set (o' := .ins T.C_Component dx [("name", .str c.name), ("shape", f.sh), ("takes", f.tk), ("hears", f.he), ("cells", f.ce), ("asks", f.ak)])
    refine ⟨x, T.C_Component, dx, _, rfl, S6.hd, T.cl_Component, T.na_Component_gives, by simp, ?_⟩
    rw [putF_ne, putF_ne, putF_ne, putF_ne, putF_ne, putF_ne, putF_nil]
    have S7 := S6.set (o' := .ins T.C_Component dx [("name", .str c.name), ("shape", f.sh), ("takes", f.tk), ("hears", f.he), ("cells", f.ce), ("asks", f.ak), ("gives", f.gi)])
    refine ⟨x, T.C_Component, dx, _, rfl, S7.hd, T.cl_Component, T.na_Component_effects, by simp, ?_⟩
    rw [putF_ne, putF_ne, putF_ne, putF_ne, putF_ne, putF_ne, putF_ne, putF_nil]
    have S8 := S7.set (o' := .ins T.C_Component dx [("name", .str c.name), ("shape", f.sh), ("takes", f.tk), ("hears", f.he), ("cells", f.ce), ("asks", f.ak), ("gives", f.gi), ("effects", f.ef)])
    refine ⟨x, T.C_Component, dx, _, rfl, S8.hd, T.cl_Component, T.na_Component_deeds, by simp, ?_⟩
    rw [putF_ne, putF_ne, putF_ne, putF_ne, putF_ne, putF_ne, putF_ne, putF_ne, putF_nil]
    have S9 := S8.set (o' := .ins T.C_Component dx [("name", .str c.name), ("shape", f.sh), ("takes", f.tk), ("hears", f.he), ("cells", f.ce), ("asks", f.ak), ("gives", f.gi), ("effects", f.ef), ("deeds", f.de)])
    refine ⟨x, T.C_Component, dx, _, rfl, S9.hd, T.cl_Component, T.na_Component_looks, by simp, ?_⟩
    rw [putF_ne, putF_ne, putF_ne, putF_ne, putF_ne, putF_ne, putF_ne, putF_ne, putF_ne, putF_nil]
    have S10 := S9.set (o' := .ins T.C_Component dx [("name", .str c.name), ("shape", f.sh), ("takes", f.tk), ("hears", f.he), ("cells", f.ce), ("asks", f.ak), ("gives", f.gi), ("effects", f.ef), ("deeds", f.de), ("looks", f.lo)])
    refine ⟨x, T.C_Component, dx, _, rfl, S10.hd, T.cl_Component, T.na_Component_island, by simp, ?_⟩
    rw [putF_ne, putF_ne, putF_ne, putF_ne, putF_ne, putF_ne, putF_ne, putF_ne, putF_ne, putF_ne, putF_nil]
    have S11 := S10.set (o' := .ins T.C_Component dx [("name", .str c.name), ("shape", f.sh), ("takes", f.tk), ("hears", f.he), ("cells", f.ce), ("asks", f.ak), ("gives", f.gi), ("effects", f.ef), ("deeds", f.de), ("looks", f.lo), ("island", f.il)])
    refine ⟨sz, fun t nt => ⟨x, T.C_Component, dx, _, rfl, (Sep.newG S11 (o := .tup []) nt).hd, T.cl_Component, T.na_Component_all_names, by simp, ?_⟩⟩
    rw [putF_ne, putF_ne, putF_ne, putF_ne, putF_ne, putF_ne, putF_ne, putF_ne, putF_ne, putF_ne, putF_ne, putF_nil]
    have s12 := Sep.grow S11 (o := .tup []) nt
    have S12 : Sep _ ((x, .ins T.C_Component dx (f.l c [("all_names", .ref t)])) :: M) _ := (Sep.newG S11 (o := .tup []) nt).set
    refine ⟨x, dx, _, rfl, S12.hd, Fs.n_check_told, _, M, x, dx, c, f, lk, .ref t, rfl, S12, fa.same s12, gc, fun an G13 H13 s13 han S13 => ?_⟩
    have t13 := s12.trans s13
    clear S0 S1 S2 S3 S4 S5 S6 S7 S8 S9 S10 S11 S12
    refine ⟨x, dx, _, rfl, S13.hd, Fs.n_check_works, G13, M, x, dx, c, f, lk, an, rfl, S13, fa.same t13, gc, hlk.imp (·.1) id, han, c1000, fun c16 G14 H14 s14 S14 => ?_, fun c17 G14 H14 N dd s14 S14 nd => ?_⟩
    rotate_left 1
    · exact qx c17 G14 H14 (N ++ [(x, .ins T.C_Component dx (f.l c [("all_names", an)]))]) dd (t13.trans s14) (by rw [List.append_assoc]; exact S14) nd
    have t14 := t13.trans s14
    obtain ⟨p1, x1, e1, hp1, hx1⟩ := dp_tup fa.tk
    obtain ⟨p2, x2, e2, hp2, hx2⟩ := dp_tup fa.he
    obtain ⟨p7, x7, e7, hp7, hx7⟩ := dp_tup fa.de
    have n1 := gc.t2.1
    have n2 := gc.h2.1
    have n7 := gc.d2.1
    refine ⟨fun σ H' => ∃ (G' : Hp) (v : V), σ = [some (.ref x), some (.str c.name), some f.sh, some f.tk, some f.he, some f.ce, some f.ak, some f.gi, some f.ef, some f.de, some f.lo, some f.il, none, none, none, none] ∧ Same G14 G' ∧ Sep G' ((x, .ins T.C_Component dx (({ f with lo := v } : Fs).l c [("all_names", an)])) :: M) H' ∧ Dp K G' v (strsD c.looks), ?_, fun σ H' h => ?_⟩
    · rcases hlk with ⟨rfl, hlk⟩ | rfl
      · have e0 : decide (f.lo = V.non) = true := by rw [dp_non fa.lo]; rfl
        refine ⟨rfl, fun _ => ?_, fun e => ?_⟩
        · refine ⟨p1, e1, ⟨_, S14.t (same_t t14 hp1)⟩, fun D7 nD7 => lc_names S14 nD7 (same_t t14 hp1) (dpa_same t14 hx1) (fun r => ⟨_, rfl⟩) (by omega) (fun G18 H18 s18 S18 => ?_)⟩
          obtain ⟨G19, s19, S19, h19⟩ := Sep.keep S18
          have t19 := t14.trans (s18.trans s19)
          refine ⟨p2, e2, ⟨_, S19.t (same_t t19 hp2)⟩, fun D8 nD8 => lc_names S19 nD8 (same_t t19 hp2) (dpa_same t19 hx2) (fun r => ⟨_, rfl⟩) (by omega) (fun G20 H20 s20 S20 => ?_)⟩
          refine ⟨D7, D8, _, _, rfl, rfl, S20.st (s20 _ _ h19), S20.hd, by rw [List.length_map, List.length_map, List.length_map, List.length_map]; exact small (by omega), fun l21 n21 => ?_⟩
          have e21 : (c.takes.map (·.1)).map V.str ++ (c.hears.map (·.1)).map V.str = c.handed.map V.str := by rw [← List.map_append]; rfl
          rw [e21]
          have S21 := S20.drop.new (o := .lst (c.handed.map V.str)) n21
          refine ⟨l21, _, rfl, .inl ⟨SqL.of S21.hd, fun t22 n22 => ?_⟩⟩
          obtain ⟨G22, s22, S22, h22⟩ := Sep.mk (o := .tup (c.handed.map V.str)) S21 n22
          have S23 := Sep.drop S22
          refine ⟨x, T.C_Component, dx, _, rfl, S23.hd, T.cl_Component, T.na_Component_looks, by unfold Fs.l; exact Nat.lt_of_sub_eq_succ rfl, ?_⟩
          rw [Fs.p_looks]
          exact ⟨G22, _, rfl, s18.trans (s19.trans (s20.trans s22)), S23.set, by rw [hlk]; exact .tup (SqT.of h22) (dpa_of_strs _)⟩
        · have e2 : decide (f.lo = V.non) = false := e
          rw [e0] at e2
          cases e2
      · obtain ⟨po, xo, eo, hpo, hxo⟩ := dp_tup fa.lo
        have e0 : decide (f.lo = V.non) = false := by rw [eo]; rfl
        refine ⟨rfl, fun e => ?_, fun _ => ?_⟩
        · have e2 : decide (f.lo = V.non) = true := e
          rw [e0] at e2
          cases e2
        · exact ⟨G14, f.lo, rfl, Same.refl _, S14, dp_same t14 fa.lo⟩
    obtain ⟨G15, vlo, rfl, s15, S15, hlo⟩ := h
    have t15 := t14.trans s15
    clear S13 S14
    refine ⟨G15, _, f.sh, c.shape, rfl, S15, dp_same t15 fa.sh, by have := gc.sh; omega, c1000, fun v16 G16 H16 s16 hv16 S16 => ⟨x, T.C_Component, dx, _, rfl, S16.hd, T.cl_Component, T.na_Component_shapes, by unfold Fs.l; exact Nat.lt_of_sub_eq_succ rfl, ?_⟩⟩
    rw [Fs.p_shapes]
    have S17 := S16.set (o' := .ins T.C_Component dx (({ f with lo := vlo } : Fs).l c [("all_names", an), ("shapes", v16)]))
    obtain ⟨p16, x16, rfl, hp16, hx16⟩ := dp_tup hv16
    have l16 := dpa_len hx16
    rw [List.length_map] at l16
    have l16 : x16.length = cnt c.shape := l16
    refine ⟨x, T.C_Component, dx, _, _, rfl, S17.hd, T.cl_Component, T.na_Component_shapes, Fs.g_shapes, p16, x16, rfl, S17.t hp16, fun D nD => lc_dp (K := K) (walk_enumT (K := K) (xs := x16)) S17 nD ((numb c.shape).zipIdx.map fun p => intsD (pnums ((p.2 : Nat) + 1) (parts p.1))) ?_ (by omega) (fun G' H' ws s' S' => S'.t (same_t s' hp16)) (fun i y d G' H' H2 ws R hi hd s' S' yy hR => ?_) (fun G18 H18 ws s18 S18 hw => ?_)⟩
    · rw [List.length_map, List.length_zipIdx, l16]
      rfl
    · obtain ⟨T2, a1, a2, rfl, nT2, rfl, ha1, ha2⟩ := yy
      cases ha1
      rw [List.getElem?_map, List.getElem?_zipIdx] at hd
      obtain ⟨dd, hdd, hud⟩ := dpa_get hx16 ha2
      obtain ⟨pt, hpt, rfl⟩ := map_get hdd
      rw [hpt] at hd
      cases hd
      have sub := numb_mem_sub _ c.shape (Nat.le_refl _) (List.mem_of_getElem? hpt)
      have h5 := gc.sh
      have S19 := S'.newG (o := .tup [.int (i : Nat), a2]) nT2
      have s19 := S'.grow (o := .tup [.int (i : Nat), a2]) nT2
      refine ⟨T2, _, rfl, SqT.of upd_same, rfl, _, _, rfl, _, _, rfl, rfl, rfl, _, _, a2, pt, (i : Nat), rfl, S19, dp_same (s'.trans s19) hud, by omega, by omega, fun v3 G3 H3 s3 hv3 S3 => hR v3 G3 H3 (s19.trans s3) S3 ?_⟩
      simpa using hv3
    have S18' := S18.drop
    refine ⟨D, _, rfl, .inl ⟨SqL.of S18.hd, fun t19 n19 => ?_⟩⟩
    obtain ⟨G19, s19, S19, h19⟩ := Sep.mk (o := .tup ws) S18 n19
    have S19 := S19.drop
    refine ⟨x, T.C_Component, dx, _, rfl, S19.hd, T.cl_Component, T.na_Component_inner, by unfold Fs.l; exact Nat.lt_of_sub_eq_succ rfl, ?_⟩
    rw [Fs.p_inner]
    have S20 := S19.set (o' := .ins T.C_Component dx (({ f with lo := vlo } : Fs).l c [("all_names", an), ("shapes", .ref p16), ("inner", .ref t19)]))
    have t20 := t15.trans (s16.trans (s18.trans s19))
    have l7 := dpa_len hx7
    rw [List.length_map] at l7
    have hin : Dp K G19 (.ref t19) (innerD c.shape) := .tup (SqT.of h19) (dpa_same s19 hw)
    clear S15 S16 S17 S18 S18' S19
    have kl : ∀ i, i ≤ c.deeds.length → (((c.deeds.take i).map fun r => (Sum.inr r.1 : Key)).zip (x7.take i)).map (·.1) = (c.deeds.take i).map fun r => (Sum.inr r.1 : Key) := fun i hi => List.map_fst_zip (by rw [List.length_map, List.length_take, List.length_take]; omega)
    refine ⟨p7, e7, ⟨_, S20.t (same_t t20 hp7)⟩, fun D nD => dc_tup (xs := x7) (fun i H' => Sep G19 ((D, .dK (((c.deeds.take i).map fun r => (Sum.inr r.1 : Key)).zip (x7.take i))) :: (x, .ins T.C_Component dx (({ f with lo := vlo } : Fs).l c [("all_names", an), ("shapes", .ref p16), ("inner", .ref t19)])) :: M) H') (S20.new nD) (fun i H' _ S' => S'.t (same_t t20 hp7)) (fun i y H' hy S' => ?_) (fun H' S' => ?_)⟩
    · obtain ⟨dd, hdd, hud⟩ := dpa_get hx7 hy
      rw [List.getElem?_map] at hdd
      obtain ⟨r, hr1, rfl⟩ := Option.map_eq_some_iff.mp hdd
      have il := (List.getElem?_eq_some_iff.mp hr1).1
      obtain ⟨a, ys, rfl, ha, hy2⟩ := dp_tup (dp_same t20 hud)
      obtain ⟨y1, r1, rfl, hy1, _⟩ := dpa_cons hy2
      obtain rfl := dp_str hy1
      refine ⟨rfl, _, _, .inr (S'.t ha), at0, _, Sum.inr r.1, rfl, S'.hd, ?_, ?_⟩
      · rw [List.length_zip, List.length_take]
        exact smallL (by omega)
      · rw [putK_nw (valV_nn ?_)]
        · have z := S'.set (o' := .dK (((c.deeds.take i).map fun r => (Sum.inr r.1 : Key)).zip (x7.take i) ++ [(Sum.inr r.1, V.ref a)]))
          rw [XL.take_snoc hr1, XL.take_snoc hy, List.map_append, List.zip_append (by rw [List.length_map, List.length_take, List.length_take]; omega)]
          exact z
        · rw [kl i (by omega)]
          intro hm
          obtain ⟨r', hr', e⟩ := List.mem_map.mp hm
          have e : r'.1 = r.1 := Sum.inr.inj e
          have nd := gc.d1.nd
          have hi : (c.deeds.map (·.1))[i]? = some r.1 := by rw [List.getElem?_map, hr1]; rfl
          exact nd_take nd hi (by rw [← List.map_take]; exact List.mem_map.mpr ⟨r', hr', e⟩)
    · rw [l7, List.take_length] at S'
      have e : x7.take c.deeds.length = x7 := by rw [← l7, List.take_length]
      rw [e] at S'
      obtain ⟨G21, s21, S21, h21⟩ := Sep.keep S'
      refine ⟨x, T.C_Component, dx, _, rfl, S21.hd, T.cl_Component, T.na_Component_deeds_by, by unfold Fs.l; exact Nat.lt_of_sub_eq_succ rfl, ?_⟩
      rw [Fs.p_by]
      have S22 := S21.set (o' := .ins T.C_Component dx (({ f with lo := vlo } : Fs).l c [("all_names", an), ("shapes", .ref p16), ("inner", .ref t19), ("deeds_by", .ref D)]))
      obtain ⟨G23, s23, S23, h23⟩ := Sep.keep S22
      have t23 := t20.trans (s21.trans s23)
      have u23 := s16.trans (s18.trans (s19.trans (s21.trans s23)))
      refine q c16 G23 _ t23 ⟨dx, { f with lo := vlo }, an, _, _, D, x7, h23, ?_, dp_same (s14.trans (s15.trans u23)) han, dp_same (s18.trans (s19.trans (s21.trans s23))) hv16, dp_same (s21.trans s23) hin, dpa_same t23 hx7, s23 _ _ h21⟩ S23
      exact ⟨dp_same t23 fa.sh, dp_same t23 fa.tk, dp_same t23 fa.he, dp_same t23 fa.ce, dp_same t23 fa.ak, dp_same t23 fa.gi, dp_same t23 fa.ef, dp_same t23 fa.de, dp_same u23 hlo, dp_same t23 fa.il⟩

end
end K57
set_option Elab.async false
set_option linter.all false
set_option maxRecDepth 100000
set_option maxHeartbeats 4000000
namespace K57
open PySem PySem.Spec PyProof.Rows L2 XL
section
variable {P : Program} {w : World} {K : PySem.W.Frag} {mg : Str → Option Value} {base : Heap}
/-! ### spare names -/
def letS : List Str := ("abcdefghijklmnopqrstuvwxyz" : Str).cps.toList.map fun c => (⟨#[c]⟩ : Str)
def sp52 : List Str := letS ++ letS.map fun z => ("a" : Str) ++ z
def spAll (bs : List Str) : List Str := sp52.filter fun z => !decide (z ∈ bs)
def spN (bs : List Str) (n : Nat) : List Str := (spAll bs).take n
theorem sp52_lt : ∀ z ∈ sp52, Lt 1 8 z := by
  have h : ∀ z ∈ sp52, 1 ≤ z.length ∧ z.length ≤ 8 ∧ ∀ c ∈ z.cps.toList, c ∈ LS.cps.toList := by decide +kernel
  intro z hz
  obtain ⟨h1, h2, h3⟩ := h z hz
  exact ⟨h1, h2, h3⟩
theorem sp52_nd : sp52.Nodup := by decide +kernel
theorem letS_nd : letS.Nodup := by decide +kernel
theorem letS_no : ∀ z ∈ letS, z ≠ "item" ∧ z ≠ "at" := by decide +kernel
theorem letS_len : letS.length = 26 := by decide +kernel
theorem sp52_len : sp52.length = 52 := by decide +kernel
theorem filt_len {l bs : List Str} (nd : l.Nodup) : l.length ≤ (l.filter fun z => !decide (z ∈ bs)).length + bs.length := by
  have h1 : (l.filter fun z => decide (z ∈ bs)).length ≤ bs.length := nodup_sub (nd.filter _) fun x hx => by simpa using (List.mem_filter.mp hx).2
  have h2 : l.length = (l.filter fun z => decide (z ∈ bs)).length + (l.filter fun z => !decide (z ∈ bs)).length := by
    induction l with
    | nil => rfl
    | cons x r ih =>
      have ih := ih (List.nodup_cons.mp nd).2 (Nat.le_trans (by
        rw [List.filter_cons]
        split <;> simp) h1)
      by_cases e : x ∈ bs
      · simp [List.filter_cons, e]; omega
      · simp [List.filter_cons, e]; omega
  omega
theorem spN_len {bs : List Str} {n : Nat} (h : bs.length + n ≤ 52) : (spN bs n).length = n := by
  have := filt_len (bs := bs) sp52_nd
  rw [sp52_len] at this
  unfold spN spAll
  rw [List.length_take]
  omega
theorem spN_sub {bs : List Str} {n : Nat} {z : Str} (h : z ∈ spN bs n) : z ∈ sp52 ∧ z ∉ bs := by
  have h1 := List.mem_of_mem_take h
  have h2 := List.mem_filter.mp h1
  exact ⟨h2.1, by simpa using h2.2⟩
theorem spN_nd (bs : List Str) (n : Nat) : (spN bs n).Nodup := (sp52_nd.filter _).sublist (List.take_sublist _ _)
theorem spN_let {bs : List Str} {n : Nat} (h : bs.length + n ≤ 26) {z : Str} (hz : z ∈ spN bs n) : z ∈ letS := by
  have h1 := filt_len (bs := bs) letS_nd
  rw [letS_len] at h1
  unfold spN spAll sp52 at hz
  rw [List.filter_append, List.take_append_of_le_length (by omega)] at hz
  exact (List.mem_filter.mp (List.mem_of_mem_take hz)).1
theorem spN_step {bs : List Str} {n i : Nat} {z : Str} {l : List Str} (h : l[i]? = some z) :
    ((l.take (i + 1)).filter fun z => !decide (z ∈ bs)).take n = if z ∉ bs ∧ (((l.take i).filter fun z => !decide (z ∈ bs)).take n).length < n then ((l.take i).filter fun z => !decide (z ∈ bs)).take n ++ [z] else ((l.take i).filter fun z => !decide (z ∈ bs)).take n := by
  rw [XL.take_snoc h, List.filter_append]
  by_cases e : z ∈ bs
  · rw [if_neg (fun q => q.1 e)]
    simp [List.filter_cons, e]
  · have e1 : ([z].filter fun z => !decide (z ∈ bs)) = [z] := by simp [List.filter_cons, e]
    rw [e1]
    by_cases hl : ((l.take i).filter fun z => !decide (z ∈ bs)).length < n
    · have hl2 : (((l.take i).filter fun z => !decide (z ∈ bs)).take n) = (l.take i).filter fun z => !decide (z ∈ bs) := List.take_of_length_le (by omega)
      rw [hl2, if_pos ⟨e, hl⟩]
      exact List.take_of_length_le (by rw [List.length_append]; simp only [List.length_cons, List.length_nil]; omega)
    · rw [if_neg (fun q => by have := q.2; rw [List.length_take] at this; omega), List.take_append_of_le_length (by omega)]
def spSpare (K : PySem.W.Frag) : Sp := fun vs H Q _ => ∃ (G : Hp) (M : List (Addr × HO)) (p : Addr) (bs : List Str) (n : Nat), vs = [.ref p, .int (n : Nat)] ∧ Sep G M H ∧ SqL K G p (bs.map V.str) ∧
  ∀ (l : Addr) (G' H' : Hp), Same G G' → Sep G' M H' → G' l = some (.lst ((spN bs n).map V.str)) → Q (.ref l) H'
theorem sg_let : sgV "abcdefghijklmnopqrstuvwxyz" = letS.map V.str := by
  unfold sgV letS
  rw [List.map_map]
  rfl
theorem ok_spare_names (T : Top K mg w) {k : Nat} : FnOk P w K mg base CX0 (k + 1) T.a_spare_names T.d_spare_names ["barred", "count"] (spSpare K) := by
  refine T.F_spare_names.ok sc_spare_names (fun vs H Q E h => ?_) (fun cdv A outer s H vs Q E hr h => ?_)
  · obtain ⟨G, M, p, bs, n, rfl, _⟩ := h
    rfl
  · obtain ⟨G, M, p, bs, n, rfl, S, hp, q⟩ := h
    refine ⟨_, (pss_cons (ps_set (i := 2) sc_spare_names.nd rfl (.inl rfl) (pe_lst pa_nil))
      (pss_cons (ps_for PassesOwn.never rfl (pi_listK K (pe_op op_addY (pe_callTy (call_list_sg rfl) (by rfl) T.m_list (by decide +kernel) (pa_cons (xe_glob (by rfl) T.v_LETTERS_surroundings) pa_nil)) (pe_lc (own := [("letter", 4)]) (by rfl) sc_spare_names.nd (pi_str (xe_glob (by rfl) T.v_LETTERS_surroundings)) (blkOk_by (N := ["barred", "count", "out", "told", "letter"]) (sc := defScope s_spare_names) (by decide +kernel)) (fun _ _ _ _ _ => (pg_name (i := 4) sc_spare_names.nd rfl (.inl rfl))) (fun _ _ _ _ _ => pts_nil) (fun _ _ _ _ _ => (pe_op op_addY pe_str (xv 4)))))) (pg_name (i := 3) sc_spare_names.nd rfl (.inl rfl))
      (pss_one (xs_if (PW.pt (xw_and (xt_cmp (notin_seqK K) (xv 3) (xv 0) (by rfl)) (pw_and1 (xt_cmp op_ltY (pe_callB (cr_lenK K) (by rfl) T.m_len (by decide +kernel) (pa_cons (xv 2) pa_nil)) (xv 1) (nomark _)))))
      (pss_one (ps_expr (pe_bmK K PySem.F.plainAttrs_list PySem.F.slot_list_append PySem.F.type_list_append mt_append (xv 2) (pa_cons (xv 3) pa_nil))))
      pss_nil)))
      (pss_one (ps_ret (xv 2))))), ?_⟩
    refine ⟨sz, fun L nL => ?_⟩
    have S1 := S.new (o := .lst []) nL
    refine ⟨_, rfl, by decide +kernel, fun l1 n1 => ?_⟩
    rw [sg_let]
    obtain ⟨G2, s2, S2, h2⟩ := Sep.mk (o := .lst (letS.map V.str)) S1 n1
    refine ⟨_, rfl, fun D nD => lc_dp (K := K) (walk_str (z := "abcdefghijklmnopqrstuvwxyz")) S2 nD (letS.map fun z => .str (("a" : Str) ++ z)) (by decide +kernel) (by decide +kernel) (fun _ _ _ _ _ => trivial) (fun i y d G' H' H2 us R hi hd s' S' yy hR => ?_) (fun G3 H3 us s3 S3 hw => ?_)⟩
    · obtain ⟨rfl, c, hc, rfl⟩ := yy
      rw [List.getElem?_map] at hd
      obtain ⟨z, hz, rfl⟩ := Option.map_eq_some_iff.mp hd
      have ez : z = ⟨#[c]⟩ := by
        unfold letS at hz
        rw [List.getElem?_map, Array.getElem?_toList, hc] at hz
        exact (Option.some.inj hz).symm
      subst ez
      refine ⟨rfl, sz, fun r er => ?_⟩
      subst er
      exact hR _ G' _ (Same.refl _) S' (.str _)
    · have ew : us = (letS.map fun z => ("a" : Str) ++ z).map V.str := dpa_strs (by rw [List.map_map]; exact hw)
      subst ew
      refine ⟨l1, D, _, _, rfl, rfl, S3.st (s3 _ _ h2), S3.hd, by decide +kernel, fun l4 n4 => ?_⟩
      have e4 : letS.map V.str ++ (letS.map fun z => ("a" : Str) ++ z).map V.str = sp52.map V.str := by rw [← List.map_append]; rfl
      rw [e4]
      obtain ⟨G4, s4, S4, h4⟩ := Sep.mk (o := .lst (sp52.map V.str)) S3 n4
      have S4 := Sep.drop S4
      have t4 := s2.trans (s3.trans s4)
      refine ⟨l4, rfl, ⟨_, S4.l (SqL.of h4)⟩, for_list (xs := sp52.map V.str) (fun i σ H' => ∃ (y3 y4 : Option V), σ = [some (.ref p), some (.int n), some (.ref L), y3, y4] ∧ Sep G4 ((L, .lst ((((sp52.take i).filter fun z => !decide (z ∈ bs)).take n).map V.str)) :: M) H') ⟨_, _, rfl, ?_⟩ (fun i σ H' _ h => ?_) (fun i y σ H' hy h => ?_) (fun σ H' h => ?_)⟩
      · have e0 : ((sp52.take 0).filter fun z => !decide (z ∈ bs)).take n = [] := by simp
        rw [e0]
        exact S4
      · obtain ⟨_, _, _, S'⟩ := h
        exact S'.l (SqL.of h4)
      · obtain ⟨y3, y4, rfl, S'⟩ := h
        rw [List.getElem?_map] at hy
        obtain ⟨z, hz, rfl⟩ := Option.map_eq_some_iff.mp hy
        have ln : ((sp52.take i).filter fun z => !decide (z ∈ bs)).length ≤ 52 := Nat.le_trans (List.length_filter_le _ _) (by rw [List.length_take, sp52_len]; omega)
        have st := spN_step (bs := bs) (n := n) hz
        refine ⟨p, _, rfl, .inl (S'.l (same_l t4 hp)), rfl, strs_flat _, fun e => ?_, fun e => ?_⟩
        · have e2 : (!inV (.str z) (bs.map V.str)) = true := e
          rw [inV_str] at e2
          have e3 : z ∉ bs := by simpa using e2
          refine ⟨_, .inl (SqL.of S'.hd), fun e4 => ?_, fun e4 => ?_⟩
          · have e5 := of_decide_eq_true e4
            rw [List.length_map] at e5
            rw [if_pos ⟨e3, by omega⟩] at st
            refine ⟨.inl ⟨rfl, _, SqL.of S'.hd⟩, L, _, _, rfl, rfl, S'.hd, ?_, _, _, rfl, ?_⟩
            · rw [List.length_map, List.length_take]
              exact smallL (by omega)
            · rw [st, List.map_append]
              exact S'.set
          · have e5 := of_decide_eq_false e4
            rw [List.length_map] at e5
            rw [if_neg (fun q => by have := q.2; omega)] at st
            exact ⟨_, _, rfl, by rw [st]; exact S'⟩
        · have e2 : (!inV (.str z) (bs.map V.str)) = false := e
          rw [inV_str] at e2
          have e3 : z ∈ bs := by simpa using e2
          rw [if_neg (fun q => q.1 e3)] at st
          exact ⟨ff, fun _ => ⟨_, _, rfl, by rw [st]; exact S'⟩⟩
      · obtain ⟨y3, y4, rfl, S'⟩ := h
        have e : sp52.take (sp52.map V.str).length = sp52 := by rw [List.length_map, List.take_length]
        rw [e] at S'
        obtain ⟨G5, s5, S5, h5⟩ := Sep.keep S'
        exact q L G5 _ (t4.trans s5) S5 h5
def btnD : Sh → Option PyData
  | .button w => some w
  | _ => none
def btnS : Sh → Option Str
  | .button (.str z) => some z
  | _ => none
def wordsC (c : Cp) : List Str := c.deeds.map (·.1) ++ (numb c.shape).filterMap btnS
def spWords (K : PySem.W.Frag) (C : Addr) : Sp := fun vs H Q _ => ∃ (G : Hp) (M : List (Addr × HO)) (x : Addr) (c : Cp), vs = [.ref x] ∧ Sep G M H ∧ CpAt K C G x c ∧ GdC c ∧ cnt c.shape ≤ 16 ∧
  ∀ (l : Addr) (G' H' : Hp), Same G G' → Sep G' M H' → G' l = some (.lst ((wordsC c).map V.str)) → Q (.ref l) H'
theorem ok_words_of (T : Top K mg w) {k : Nat} : FnOk P w K mg base CX0 (k + 1) T.a_words_of T.d_words_of ["component"] (spWords K T.C_Component) := by
  refine T.F_words_of.ok sc_words_of (fun vs H Q E h => ?_) (fun cdv A outer s H vs Q E hr h => ?_)
  · obtain ⟨G, M, x, c, rfl, _⟩ := h
    rfl
  · obtain ⟨G, M, x, c, rfl, S, hc, gc, c16, q⟩ := h
    refine ⟨_, (pss_cons (ps_setLc (i := 1) (own := [("deed", 2)]) (by rfl) sc_words_of.nd rfl rfl (sw_true rfl rfl rfl (by decide +kernel)) (pi_tupK K (pe_fldK K (xv 0))) (blkOk_by (N := ["component", "words", "deed", "shape"]) (sc := defScope s_words_of) (by decide +kernel)) (fun _ _ _ _ _ => (pg_name (i := 2) sc_words_of.nd rfl (.inl rfl))) (fun _ _ _ _ _ => pts_nil) (fun _ _ _ _ _ => (pe_ix (ix_k K) (xv 2) pe_int (fun _ _ => rfl))))
      (pss_one (ps_ret (pe_op op_addY (xv 1) (pe_lc (own := [("shape", 3)]) (by rfl) sc_words_of.nd (pi_tupK K (pe_fldK K (xv 0))) (blkOk_by (N := ["component", "words", "deed", "shape"]) (sc := defScope s_words_of) (by decide +kernel)) (fun _ _ _ _ _ => (pg_name (i := 3) sc_words_of.nd rfl (.inl rfl))) (fun _ _ _ _ _ => (pts_one (xt_cmp (op_eqLK K hr.u190) (pe_ix (ix_k K) (xv 3) pe_int (fun _ _ => rfl)) pe_str (nomark _)))) (fun _ _ _ _ _ => (pe_ix (ix_k K) (xv 3) pe_int (fun _ _ => rfl)))))))), ?_⟩
    obtain ⟨dx, f, an, vs, vi, db, xs, h1, fa, han, hvs, hvi, hxs, hdb⟩ := hc.ex
    obtain ⟨p7, x7, e7, hp7, hx7⟩ := dp_tup fa.de
    obtain ⟨p8, x8, rfl, hp8, hx8⟩ := dp_tup hvs
    have n7 := gc.d2.1
    have l8 := dpa_len hx8
    rw [List.length_map] at l8
    have l8 : x8.length = cnt c.shape := l8
    refine ⟨x, T.C_Component, dx, _, _, rfl, S.st h1, T.cl_Component, T.na_Component_deeds, Fs.g_deeds, p7, e7, ⟨_, S.t hp7⟩, fun D nD => lc_names S nD hp7 hx7 (fun r => ⟨_, rfl⟩) (by omega) (fun G2 H2 s2 S2 => ?_)⟩
    obtain ⟨G3, s3, S3, h3⟩ := Sep.keep S2
    have t3 := s2.trans s3
    refine ⟨x, T.C_Component, dx, _, _, rfl, S3.st (t3 _ _ h1), T.cl_Component, T.na_Component_shapes, Fs.g_shapes, p8, rfl, ⟨_, S3.t (same_t t3 hp8)⟩, fun D2 nD2 => lc_dpX (K := K) (walk_tup (xs := x8)) S3 nD2 (fun i => ((numb c.shape).take i).filterMap btnD) rfl (by omega) (fun G' H' us s' S' => S'.t (same_t (t3.trans s') hp8)) (fun i y G' H' H2 us R F hi s' S' yy hR hF => ?_) (fun G4 H4 us s4 S4 hw => ?_)⟩
    · obtain ⟨rfl, hy⟩ := yy
      obtain ⟨dd, hdd, hud⟩ := dpa_get hx8 hy
      obtain ⟨sh, hsh, rfl⟩ := map_get hdd
      have tk : ((numb c.shape).take (i + 1)).filterMap btnD = ((numb c.shape).take i).filterMap btnD ++ [sh].filterMap btnD := by rw [XL.take_snoc hsh, List.filterMap_append]
      obtain ⟨a, rest, rfl, ha, hr'⟩ := shp_at (dp_same (t3.trans s') hud)
      refine ⟨rfl, _, _, .inr (S'.t ha), at0, tst (fun e => ?_) (fun e => ?_)⟩
      · obtain ⟨w0, rfl⟩ := word_button (of_decide_eq_true e)
        obtain ⟨x1, r1, rfl, d1, e1⟩ := dpa_cons hr'
        exact ⟨_, _, .inr (S'.t ha), atI_nat (j := 1) rfl, hR _ w0 G' _ (by rw [tk]; rfl) (Same.refl _) S' d1⟩
      · refine hF ?_ G' _ (Same.refl _) S'
        rw [tk]
        cases sh with
        | button w0 => exact we (a := "button") e
        | _ => exact List.append_nil _
    · have bw : ∀ l : List Sh, (∀ s ∈ l, ∀ w, s = .button w → NmD w) → l.filterMap btnD = (l.filterMap btnS).map PyData.str := by
        intro l
        induction l with
        | nil => intro _; rfl
        | cons s r ih =>
          intro hb
          have ih := ih fun s hs => hb s (List.mem_cons_of_mem _ hs)
          cases s with
          | button w0 =>
            obtain ⟨z, rfl, _⟩ := hb _ List.mem_cons_self w0 rfl
            simp only [List.filterMap_cons, btnD, btnS, List.map_cons, ih]
          | _ => simp only [List.filterMap_cons, btnD, btnS, ih]
      have gs : SG c.names c.shape := by
        rcases gc.s1 with h | ⟨col, ps, e, big⟩
        · exact h
        · rw [e] at c16
          have := many_le ps
          have := cnt_eq (.line col ps)
          have : cnt (.line col ps) = (numbs ps).length + 1 := this
          omega
      have e8 : (numb c.shape).take x8.length = numb c.shape := List.take_of_length_le (by rw [l8]; exact Nat.le_refl _)
      rw [e8, bw _ fun s hs w0 e => by
        have := gs s hs
        rw [e] at this
        exact this] at hw
      obtain rfl := dpa_strs hw
      have bl : ((numb c.shape).filterMap btnS).length ≤ 16 := Nat.le_trans (List.length_filterMap_le _ _) c16
      refine ⟨D, D2, _, _, rfl, rfl, S4.st (s4 _ _ h3), S4.hd, ?_, fun l5 n5 => ?_⟩
      · rw [List.length_map, List.length_map, List.length_map]
        exact small (by omega)
      · rw [← List.map_append]
        obtain ⟨G5, s5, S5, h5⟩ := Sep.mk (o := .lst ((wordsC c).map V.str)) S4 n5
        exact q l5 G5 _ (t3.trans (s4.trans s5)) S5.drop h5

end
end K57
set_option Elab.async false
set_option linter.all false
set_option maxRecDepth 100000
set_option maxHeartbeats 4000000
namespace K57
open PySem PySem.Spec PyProof.Rows L2 XL
/-! ### the stub, plain -/
def stSp (c ch : Cp) : List Str := spN (c.gives.map (·.1)) (ch.takes.length + 1)
def stTk (c ch : Cp) : List (Str × Int) := ((stSp c ch).take ch.takes.length).zip (ch.takes.map (·.2))
def stHd (c : Cp) : List (Str × Int × Int) := c.gives.map fun r => (r.1, r.2.1, 0)
def stCell (c ch : Cp) : Str := (stSp c ch).getD ch.takes.length ""
def stOwn (c : Cp) : Str := (spN (wordsC c) 1).getD 0 ""
def txS (z : Str) : Sh := .text (Gm.get z).dat
def btS (z : Str) : Sh := .button (.str z)
def stParts (c ch : Cp) : List Sh := ((stTk c ch).map (·.1) ++ (stHd c).map (·.1)).map txS ++ ([txS (stCell c ch), btS (stOwn c)] ++ c.deeds.map fun r => btS r.1)
def oneG (z : Str) : Gm := .sum (.get z) (.is 1)
def stubC (c ch : Cp) : Cp where
  name := ch.name
  shape := .line true (stParts c ch)
  takes := stTk c ch
  hears := stHd c
  cells := [(stCell c ch, 2, 0)]
  asks := []
  gives := []
  effs := []
  deeds := [(stOwn c, [(stCell c ch, oneG (stCell c ch))], false)]
  looks := (stTk c ch).map (·.1) ++ (stHd c).map (·.1)
  isl := none
structure StF (c ch : Cp) : Prop where
  len : (stSp c ch).length = ch.takes.length + 1
  lets : ∀ z ∈ stSp c ch, z ∈ letS
  lt : ∀ z ∈ stSp c ch, Lt 1 8 z
  no : ∀ z ∈ stSp c ch, z ∉ c.gives.map (·.1)
  nd : (stSp c ch).Nodup
  cell : (stSp c ch)[ch.takes.length]? = some (stCell c ch)
  tk : (stTk c ch).map (·.1) = (stSp c ch).take ch.takes.length
  cn : stCell c ch ∉ (stSp c ch).take ch.takes.length
  own : (spN (wordsC c) 1)[0]? = some (stOwn c)
  olt : Lt 1 8 (stOwn c)
theorem stf {c ch : Cp} (gc : GdC c) (gh : GdC ch) (c16 : cnt c.shape ≤ 16) : StF c ch := by
  have g2 := gc.g2.1
  have t2 := gh.t2.1
  have gl : (c.gives.map (·.1)).length ≤ 2 := by rw [List.length_map]; exact g2
  have len : (stSp c ch).length = ch.takes.length + 1 := spN_len (by omega)
  have hn : ∀ {l : List Str} {i : Nat}, i < l.length → l[i]? = some (l.getD i "") := fun {l i} h => by
    rw [List.getD_eq_getElem?_getD, List.getElem?_eq_getElem h]
    rfl
  have cell : (stSp c ch)[ch.takes.length]? = some (stCell c ch) := hn (by omega)
  have nd : (stSp c ch).Nodup := spN_nd _ _
  have d7 := gc.d2.1
  have bl : ((numb c.shape).filterMap btnS).length ≤ 16 := Nat.le_trans (List.length_filterMap_le _ _) c16
  have wl : (wordsC c).length ≤ 30 := by
    unfold wordsC
    rw [List.length_append, List.length_map]
    omega
  have ol : (spN (wordsC c) 1).length = 1 := spN_len (by omega)
  have own : (spN (wordsC c) 1)[0]? = some (stOwn c) := hn (by omega)
  exact ⟨len, fun z hz => spN_let (by omega) hz, fun z hz => sp52_lt z (spN_sub hz).1, fun z hz => (spN_sub hz).2, nd, cell, List.map_fst_zip (by rw [List.length_take, List.length_map]; omega), nd_take nd cell, own, sp52_lt _ (spN_sub (List.mem_of_getElem? own)).1⟩
theorem hgts_one_le {ps : List Sh} (h : ∀ p ∈ ps, hgt p = 1) : hgts ps ≤ 1 := hgts_le fun p hp => by rw [h p hp]; exact Nat.le_refl _
theorem stParts_leaf {c ch : Cp} {p : Sh} (h : p ∈ stParts c ch) : (∃ z, p = txS z ∧ (z ∈ (stTk c ch).map (·.1) ++ (stHd c).map (·.1) ∨ z = stCell c ch)) ∨ ∃ z, p = btS z ∧ (z = stOwn c ∨ z ∈ c.deeds.map (·.1)) := by
  unfold stParts at h
  rcases List.mem_append.mp h with h | h
  · obtain ⟨z, hz, rfl⟩ := List.mem_map.mp h
    exact .inl ⟨z, rfl, .inl hz⟩
  · rcases List.mem_append.mp h with h | h
    · simp only [List.mem_cons, List.not_mem_nil, or_false] at h
      rcases h with rfl | rfl
      · exact .inl ⟨_, rfl, .inr rfl⟩
      · exact .inr ⟨_, rfl, .inl rfl⟩
    · obtain ⟨r, hr, rfl⟩ := List.mem_map.mp h
      exact .inr ⟨_, rfl, .inr (List.mem_map_of_mem hr)⟩
theorem nd1 (z : Str) : [z].Nodup := by simp
theorem stub_good {c ch : Cp} (gc : GdC c) (gh : GdC ch) (c16 : cnt c.shape ≤ 16) : GdC (stubC c ch) := by
  have F := stf gc gh c16
  have hsub : ∀ z ∈ (stSp c ch).take ch.takes.length, z ∈ stSp c ch := fun z hz => List.mem_of_mem_take hz
  have hcm : stCell c ch ∈ stSp c ch := List.mem_of_getElem? F.cell
  have hd : (stHd c).map (·.1) = c.gives.map (·.1) := by
    unfold stHd
    rw [List.map_map]
    rfl
  have handed : (stubC c ch).handed = (stSp c ch).take ch.takes.length ++ c.gives.map (·.1) := by
    show (stTk c ch).map (·.1) ++ (stHd c).map (·.1) = _
    rw [F.tk, hd]
  have told : (stubC c ch).told = ((stSp c ch).take ch.takes.length ++ c.gives.map (·.1)) ++ [stCell c ch] := by
    show (stubC c ch).handed ++ [stCell c ch] = _
    rw [handed]
  have names : (stubC c ch).names = ((stSp c ch).take ch.takes.length ++ c.gives.map (·.1)) ++ [stCell c ch] := by
    show (stubC c ch).told ++ [] = _
    rw [List.append_nil, told]
  have hlk : (stubC c ch).looks = (stSp c ch).take ch.takes.length ++ c.gives.map (·.1) := handed
  have sz : ∀ r ∈ stTk c ch, 1 ≤ r.2 ∧ r.2 ≤ 4 := fun r hr => by
    have := (List.of_mem_zip hr).2
    obtain ⟨q, hq, e⟩ := List.mem_map.mp this
    rw [← e]
    exact gh.t2.2 q hq
  refine ⟨gh.nm, ?_, ?_, ?_, ?_, ?_, ?_, ?_, ?_, ?_, ?_, ?_, ?_, ?_, ?_, ?_, ?_, ?_, ?_, ?_⟩
  · show Frs ((stTk c ch).map (·.1)) []
    rw [F.tk]
    exact ⟨fun z hz => F.lt z (hsub z hz), fun z hz => ⟨(letS_no z (F.lets z (hsub z hz))).1, (letS_no z (F.lets z (hsub z hz))).2, by simp⟩, F.nd.sublist (List.take_sublist _ _)⟩
  · refine ⟨?_, sz⟩
    have h1 : (stTk c ch).length = ch.takes.length := by
      have := congrArg List.length F.tk
      rw [List.length_map, List.length_take, F.len] at this
      omega
    show (stTk c ch).length ≤ 3
    rw [h1]
    exact gh.t2.1
  · show Frs ((stHd c).map (·.1)) ((stTk c ch).map (·.1))
    rw [F.tk, hd]
    exact ⟨gc.g1.lt, fun z hz => ⟨(gc.g1.no z hz).1, (gc.g1.no z hz).2.1, fun hm => F.no z (hsub z hm) hz⟩, gc.g1.nd⟩
  · refine ⟨by show (c.gives.map _).length ≤ 2; rw [List.length_map]; exact gc.g2.1, fun r hr => ?_⟩
    obtain ⟨q, hq, rfl⟩ := List.mem_map.mp hr
    have := gc.g2.2 q hq
    exact ⟨this.1, this.2.1, by show (0 : Int) ≤ 0; omega, by show (0 : Int) < q.2.1; omega⟩
  · show Frs [stCell c ch] (stubC c ch).handed
    rw [handed]
    refine ⟨fun z hz => ?_, fun z hz => ?_, nd1 _⟩
    · rw [List.mem_singleton.mp hz]; exact F.lt _ hcm
    · rw [List.mem_singleton.mp hz]
      refine ⟨(letS_no _ (F.lets _ hcm)).1, (letS_no _ (F.lets _ hcm)).2, fun hm => ?_⟩
      rcases List.mem_append.mp hm with h | h
      · exact F.cn h
      · exact F.no _ hcm h
  · refine ⟨by show 1 ≤ 12; decide, fun r hr => ?_⟩
    rw [List.mem_singleton.mp hr]
    exact ⟨by show (1 : Int) ≤ 2; omega, by show (2 : Int) ≤ 4; omega, by show (0 : Int) ≤ 0; omega, by show (0 : Int) < 2; omega⟩
  · exact ⟨fun z hz => (nomatch hz), fun z hz => (nomatch hz), List.nodup_nil⟩
  · exact ⟨Nat.zero_le _, fun r hr => nomatch hr⟩
  · exact ⟨fun z hz => (nomatch hz), fun z hz => (nomatch hz), List.nodup_nil⟩
  · exact ⟨Nat.zero_le _, fun r hr => nomatch hr⟩
  · exact ⟨fun z hz => (nomatch hz), List.nodup_nil⟩
  · exact ⟨Nat.zero_le _, fun r hr => nomatch hr⟩
  · refine ⟨fun z hz => ?_, nd1 _⟩
    rw [List.mem_singleton.mp hz]
    exact F.olt
  · refine ⟨by show 1 ≤ 14; decide, fun r hr => ?_⟩
    rw [List.mem_singleton.mp hr]
    refine ⟨⟨by show 1 ≤ 1; decide, by show 1 ≤ 5; decide⟩, nd1 _, fun q hq => ?_⟩
    rw [List.mem_singleton.mp hq]
    refine ⟨List.mem_singleton.mpr rfl, ⟨⟨?_, by decide, by decide⟩, by show 2 ≤ 5; decide⟩⟩
    show stCell c ch ∈ (stubC c ch).names ++ _
    rw [names]
    simp
  · rw [hlk]
    refine ⟨?_, fun z hz => by rw [handed]; exact hz⟩
    rw [List.nodup_append]
    exact ⟨F.nd.sublist (List.take_sublist _ _), gc.g1.nd, fun a ha b hb e => F.no a (hsub a ha) (by rw [e]; exact hb)⟩
  · intro r hr
    cases hr
  · by_cases h16 : (stParts c ch).length ≤ 16
    · refine .inl (SG.mk h16 fun p hp => SG.mk ?_ fun q hq => ?_)
      · rcases stParts_leaf hp with ⟨z, rfl, hz⟩ | ⟨z, rfl, hz⟩
        · refine ⟨.get z, rfl, ?_, by show 1 ≤ 5; decide⟩
          show z ∈ (stubC c ch).names
          rw [names]
          rcases hz with hz | rfl
          · rw [F.tk, hd] at hz
            exact List.mem_append_left _ hz
          · simp
        · refine ⟨z, rfl, ?_⟩
          rcases hz with rfl | hz
          · exact F.olt
          · exact gc.d1.lt z hz
      · rcases stParts_leaf hp with ⟨z, rfl, hz⟩ | ⟨z, rfl, hz⟩ <;> exact nomatch hq
    · exact .inr ⟨true, _, rfl, by omega⟩
  · show hgts (stParts c ch) + 1 ≤ 5
    have := hgts_one_le (ps := stParts c ch) fun p hp => by
      rcases stParts_leaf hp with ⟨z, rfl, hz⟩ | ⟨z, rfl, hz⟩ <;> rfl
    omega
  · exact ⟨true, _, rfl⟩
theorem numbs_leaf : ∀ {ps : List Sh}, (∀ p ∈ ps, numb p = [p]) → numbs ps = ps
  | [], _ => by simp only [numbs]
  | p :: r, h => by simp only [numbs, h p (by simp), numbs_leaf fun q hq => h q (List.mem_cons_of_mem _ hq), List.singleton_append]
theorem stub_numb (c ch : Cp) : numb (stubC c ch).shape = (stubC c ch).shape :: stParts c ch := by
  rw [numb_eq]
  show _ :: numbs (stParts c ch) = _
  rw [numbs_leaf fun p hp => by
    rcases stParts_leaf hp with ⟨z, rfl, _⟩ | ⟨z, rfl, _⟩
    · simp only [txS, numb]
    · simp only [btS, numb]]
theorem stParts_len {c ch : Cp} (F : StF c ch) : (stParts c ch).length = ch.takes.length + c.gives.length + 2 + c.deeds.length := by
  have h2 := congrArg List.length F.tk
  rw [List.length_map, List.length_take, F.len] at h2
  unfold stParts
  simp only [List.length_append, List.length_map, List.length_cons, List.length_nil, stHd]
  omega
theorem stub_cnt {c ch : Cp} (F : StF c ch) : cnt (stubC c ch).shape = ch.takes.length + c.gives.length + c.deeds.length + 3 := by
  unfold cnt
  rw [stub_numb, List.length_cons, stParts_len F]
  omega

section
variable {P : Program} {w : World} {K : PySem.W.Frag} {mg : Str → Option Value} {base : Heap}
/-! ### the builders -/
def spB (n : Nat) (wd : Str) : Sp := fun vs H Q _ => ∃ (G : Hp) (M : List (Addr × HO)), vs.length = n ∧ Sep G M H ∧ ∀ (q : Addr) (G' H' : Hp), Same G G' → G' q = some (.tup (.str wd :: vs)) → Sep G' M H' → Q (.ref q) H'
theorem len1 {vs : List V} (h : vs.length = 1) : ∃ a, vs = [a] := List.length_eq_one_iff.mp h
theorem ok_text_shape (T : Top K mg w) {k : Nat} : FnOk P w K mg base CX0 (k + 1) T.a_text_shape T.d_text_shape ["form"] (spB 1 "text") := by
  refine T.F_text_shape.ok sc_text_shape (fun vs H Q E h => ?_) (fun cdv A outer s H vs Q E hr h => ?_)
  · obtain ⟨G, M, l, _⟩ := h
    exact l
  · obtain ⟨G, M, l, S, q⟩ := h
    obtain ⟨a, rfl⟩ := len1 l
    refine ⟨_, (pss_one (ps_ret (pe_tup (pa_cons pe_str (pa_cons (xv 0) pa_nil))))), sz, fun p np => ?_⟩
    obtain ⟨G1, s1, S1, h1⟩ := Sep.mk (o := .tup [.str "text", a]) S np
    exact q p G1 _ s1 h1 S1
theorem ok_button_shape (T : Top K mg w) {k : Nat} : FnOk P w K mg base CX0 (k + 1) T.a_button_shape T.d_button_shape ["word"] (spB 1 "button") := by
  refine T.F_button_shape.ok sc_button_shape (fun vs H Q E h => ?_) (fun cdv A outer s H vs Q E hr h => ?_)
  · obtain ⟨G, M, l, _⟩ := h
    exact l
  · obtain ⟨G, M, l, S, q⟩ := h
    obtain ⟨a, rfl⟩ := len1 l
    refine ⟨_, (pss_one (ps_ret (pe_tup (pa_cons pe_str (pa_cons (xv 0) pa_nil))))), sz, fun p np => ?_⟩
    obtain ⟨G1, s1, S1, h1⟩ := Sep.mk (o := .tup [.str "button", a]) S np
    exact q p G1 _ s1 h1 S1
theorem ok_col_shape (T : Top K mg w) {k : Nat} : FnR P w K mg base CX0 (k + 1) T.a_col_shape (spS 0 (spB 1 "col")) := by
  refine okS (ps := []) T.F_col_shape sc_col_shape T.b_col_shape (fun cdv A outer s H vs Q E hr h => ?_)
  obtain ⟨G, M, l, S, q⟩ := h
  obtain ⟨a, rfl⟩ := len1 l
  refine ⟨_, (pss_one (ps_ret (pe_tup (pa_cons pe_str (pa_cons (xv 0) pa_nil))))), sz, fun p np => ?_⟩
  obtain ⟨G1, s1, S1, h1⟩ := Sep.mk (o := .tup [.str "col", a]) S np
  exact q p G1 _ s1 h1 S1

end
end K57
set_option Elab.async false
set_option linter.all false
set_option maxRecDepth 100000
set_option maxHeartbeats 4000000
namespace K57
open PySem PySem.Spec PyProof.Rows L2 XL
section
variable {P : Program} {w : World} {K : PySem.W.Frag} {mg : Str → Option Value} {base : Heap}
/-! ### the stub, walked -/
def spOne (K : PySem.W.Frag) : Sp := fun vs H Q _ => ∃ (G : Hp) (M : List (Addr × HO)) (z : Str), vs = [.str z] ∧ Sep G M H ∧ ∀ (v : V) (G' H' : Hp), Same G G' → Dp K G' v (oneG z).dat → Sep G' M H' → Q v H'
theorem ok_one_more (T : Top K mg w) {k : Nat} : FnOk P w K mg base CX0 (k + 1) T.a_one_more T.d_one_more ["cell"] (spOne K) := by
  refine T.F_one_more.ok sc_one_more (fun vs H Q E h => ?_) (fun cdv A outer s H vs Q E hr h => ?_)
  · obtain ⟨G, M, z, rfl, _⟩ := h
    rfl
  · obtain ⟨G, M, z, rfl, S, q⟩ := h
    refine ⟨_, (pss_one (ps_ret (pe_tup (pa_cons pe_str (pa_cons (pe_tup (pa_cons pe_str (pa_cons (xv 0) pa_nil))) (pa_cons (pe_tup (pa_cons pe_str (pa_cons pe_int pa_nil))) pa_nil)))))), ?_⟩
    refine ⟨sz, fun t1 n1 => ⟨sz, fun t2 n2 => ⟨sz, fun t3 n3 => ?_⟩⟩⟩
    obtain ⟨G1, s1, S1, h1⟩ := dp_mk (K := K) (ds := [.str "get", .str z]) S n1 (.cons (.str _) (.cons (.str _) .nil))
    obtain ⟨G2, s2, S2, h2⟩ := dp_mk (K := K) (ds := [.str "is", .int 1]) S1 n2 (.cons (.str _) (.cons (.int _) .nil))
    obtain ⟨G3, s3, S3, h3⟩ := dp_mk (K := K) (ds := [.str "sum", (Gm.get z).dat, (Gm.is 1).dat]) S2 n3 (.cons (.str _) (.cons (dp_same s2 h1) (.cons h2 .nil)))
    exact q _ G3 _ (s1.trans (s2.trans s3)) h3 S3
def spStub (K : PySem.W.Frag) (C Cb : Addr) : Sp := fun vs H Q E => ∃ (G : Hp) (M : List (Addr × HO)) (x y : Addr) (c ch : Cp), vs = [.ref x, .ref y] ∧ Sep G M H ∧ CpAt K C G x c ∧ CpAt K C G y ch ∧ GdC c ∧ GdC ch ∧ cnt c.shape ≤ 16 ∧
  (cnt (stubC c ch).shape ≤ 16 → ∀ (z : Addr) (G' H' : Hp), Same G G' → CpAt K C G' z (stubC c ch) → Sep G' M H' → Q (.ref z) H') ∧
  (16 < cnt (stubC c ch).shape → ∀ (G' H' : Hp) (N : List (Addr × HO)) (dd : Addr), Same G G' → Sep G' (N ++ M) H' → H' dd = none → E (.ref Cb) (some dd) (upd H' dd (.xd [("part", .str "shape")])))
theorem ok_stub (T : Top K mg w) {k : Nat} (G_spare_names : FnOk P w K mg base CX0 k T.a_spare_names T.d_spare_names ["barred", "count"] (spSpare K)) (G_words_of : FnOk P w K mg base CX0 k T.a_words_of T.d_words_of ["component"] (spWords K T.C_Component)) (G_one_more : FnOk P w K mg base CX0 k T.a_one_more T.d_one_more ["cell"] (spOne K))
    (G_text_shape : FnOk P w K mg base CX0 k T.a_text_shape T.d_text_shape ["form"] (spB 1 "text")) (G_button_shape : FnOk P w K mg base CX0 k T.a_button_shape T.d_button_shape ["word"] (spB 1 "button")) (G_col_shape : FnR P w K mg base CX0 k T.a_col_shape (spS 0 (spB 1 "col")))
    (G_Component_init : FnOk P w K mg base (L2.CX P w) k T.a_Component_init T.d_Component_init ["self", "name", "shape", "takes", "hears", "cells", "asks", "gives", "effects", "deeds", "looks", "island"] (spCi K T.C_Component T.C_BadComponent)) :
    FnOk P w K mg base (L2.CX P w) (k + 2) T.a_stub T.d_stub ["component", "child"] (spStub K T.C_Component T.C_BadComponent) := by
  refine T.F_stub.okX sc_stub (fun vs H Q E h => ?_) (fun cdv A outer s H vs Q E hr h => ?_)
  · obtain ⟨G, M, x, y, c, ch, rfl, _⟩ := h
    rfl
  · obtain ⟨G, M, x, y, c, ch, rfl, S, hc, hh, gc, gh, c16, q, qx⟩ := h
    have F := stf gc gh c16
    refine ⟨_, (xss_cut (ps_setLc (i := 2) (own := [("told", 10), ("size", 11), ("form", 12)]) (by rfl) sc_stub.nd rfl rfl (sw_true rfl rfl rfl (by decide +kernel)) (pi_tupK K (pe_fldK K (xv 0))) (blkOk_by (N := ["component", "child", "heard", "spare", "taken", "cell", "own", "parts", "deed", "flip", "told", "size", "form", "at", "row"]) (sc := defScope s_stub) (by decide +kernel)) (fun _ _ _ _ _ => (pg_tupK K 3 (pgs_cons (pg_name (i := 10) sc_stub.nd rfl (.inl rfl)) (pgs_cons (pg_name (i := 11) sc_stub.nd rfl (.inl rfl)) (pgs_cons (pg_name (i := 12) sc_stub.nd rfl (.inl rfl)) pgs_nil))))) (fun _ _ _ _ _ => pts_nil) (fun _ _ _ _ _ => (pe_tup (pa_cons (xv 10) (pa_cons (xv 11) (pa_cons pe_int pa_nil))))))
      (xss_cut (ps_set (i := 3) sc_stub.nd rfl (.inr rfl) (pe_call G_spare_names (hr.mono (by omega)) (by rfl) T.g_spare_names T.F_spare_names.kp T.b_spare_names .nil pass0 (pa_cons (pe_lc (own := [("row", 14)]) (by rfl) sc_stub.nd (pi_listK K (xv 2)) (blkOk_by (N := ["component", "child", "heard", "spare", "taken", "cell", "own", "parts", "deed", "flip", "told", "size", "form", "at", "row"]) (sc := defScope s_stub) (by decide +kernel)) (fun _ _ _ _ _ => (pg_name (i := 14) sc_stub.nd rfl (.inl rfl))) (fun _ _ _ _ _ => pts_nil) (fun _ _ _ _ _ => (pe_ix (ix_k K) (xv 14) pe_int (fun _ _ => rfl)))) (pa_cons (pe_op op_addY (pe_callB (cr_lenK K) (by rfl) T.m_len (by decide +kernel) (pa_cons (pe_fldK K (xv 1)) pa_nil)) pe_int) pa_nil))))
      (xss_cut (ps_setLc (i := 4) (own := [("at", 13), ("row", 14)]) (by rfl) sc_stub.nd rfl rfl (sw_true rfl rfl rfl (by decide +kernel)) (pi_enumT (by rfl) T.m_enumerate (pa_cons (pe_fldK K (xv 1)) pa_nil)) (blkOk_by (N := ["component", "child", "heard", "spare", "taken", "cell", "own", "parts", "deed", "flip", "told", "size", "form", "at", "row"]) (sc := defScope s_stub) (by decide +kernel)) (fun _ _ _ _ _ => (pg_tupK K 2 (pgs_cons (pg_name (i := 13) sc_stub.nd rfl (.inl rfl)) (pgs_cons (pg_name (i := 14) sc_stub.nd rfl (.inl rfl)) pgs_nil)))) (fun _ _ _ _ _ => pts_nil) (fun _ _ _ _ _ => (pe_tup (pa_cons (pe_ix (ix_k K) (xv 3) (xv 13) (fun _ _ => rfl)) (pa_cons (pe_ix (ix_k K) (xv 14) pe_int (fun _ _ => rfl)) pa_nil)))))
      (pss_cons (ps_set (i := 5) sc_stub.nd rfl (.inl rfl) (pe_ix (ix_k K) (xv 3) (pe_callB (cr_lenK K) (by rfl) T.m_len (by decide +kernel) (pa_cons (pe_fldK K (xv 1)) pa_nil)) (fun _ _ => rfl)))
      (xss_cut (ps_set (i := 6) sc_stub.nd rfl (.inl rfl) (pe_ix (ix_k K) (pe_call G_spare_names (hr.mono (by omega)) (by rfl) T.g_spare_names T.F_spare_names.kp T.b_spare_names .nil pass0 (pa_cons (pe_call G_words_of (hr.mono (by omega)) (by rfl) T.g_words_of T.F_words_of.kp T.b_words_of .nil pass0 (pa_cons (xv 0) pa_nil)) (pa_cons pe_int pa_nil))) pe_int (fun _ _ => rfl)))
      (xss_cut (ps_setLc (i := 7) (own := [("row", 14)]) (by rfl) sc_stub.nd rfl rfl (sw_true rfl rfl rfl (by decide +kernel)) (pi_listK K (pe_op op_addY (xv 4) (xv 2))) (blkOk_by (N := ["component", "child", "heard", "spare", "taken", "cell", "own", "parts", "deed", "flip", "told", "size", "form", "at", "row"]) (sc := defScope s_stub) (by decide +kernel)) (fun _ _ _ _ _ => (pg_name (i := 14) sc_stub.nd rfl (.inl rfl))) (fun _ _ _ _ _ => pts_nil) (fun _ _ _ _ _ => (pe_call G_text_shape (hr.mono (by omega)) (by rfl) T.g_text_shape T.F_text_shape.kp T.b_text_shape .nil pass0 (pa_cons (pe_tup (pa_cons pe_str (pa_cons (pe_ix (ix_k K) (xv 14) pe_int (fun _ _ => rfl)) pa_nil))) pa_nil))))
      (pss_cons (ps_expr (pe_bmK K PySem.F.plainAttrs_list PySem.F.slot_list_append PySem.F.type_list_append mt_append (xv 7) (pa_cons (pe_call G_text_shape (hr.mono (by omega)) (by rfl) T.g_text_shape T.F_text_shape.kp T.b_text_shape .nil pass0 (pa_cons (pe_tup (pa_cons pe_str (pa_cons (xv 5) pa_nil))) pa_nil)) pa_nil)))
      (pss_cons (ps_expr (pe_bmK K PySem.F.plainAttrs_list PySem.F.slot_list_append PySem.F.type_list_append mt_append (xv 7) (pa_cons (pe_call G_button_shape (hr.mono (by omega)) (by rfl) T.g_button_shape T.F_button_shape.kp T.b_button_shape .nil pass0 (pa_cons (xv 6) pa_nil)) pa_nil)))
      (pss_cons (ps_for (passes_of rfl) rfl (pi_tupK K (pe_fldK K (xv 0))) (pg_name (i := 8) sc_stub.nd rfl (.inl rfl))
      (pss_one (ps_expr (pe_bmK K PySem.F.plainAttrs_list PySem.F.slot_list_append PySem.F.type_list_append mt_append (xv 7) (pa_cons (pe_call G_button_shape (hr.mono (by omega)) (by rfl) T.g_button_shape T.F_button_shape.kp T.b_button_shape .nil pass0 (pa_cons (pe_ix (ix_k K) (xv 8) pe_int (fun _ _ => rfl)) pa_nil)) pa_nil)))))
      (pss_cons (ps_set (i := 9) sc_stub.nd rfl (.inl rfl) (pe_tup (pa_cons (xv 6) (pa_cons (pe_tup (pa_cons (pe_tup (pa_cons (xv 5) (pa_cons (pe_call G_one_more (hr.mono (by omega)) (by rfl) T.g_one_more T.F_one_more.kp T.b_one_more .nil pass0 (pa_cons (xv 5) pa_nil)) pa_nil))) pa_nil)) (pa_cons pe_bl pa_nil)))))
      (pss_one (ps_ret (pe_makeK T.mk_Component G_Component_init (hr.mono (by omega)) (by rfl) T.g_Component (Exists.choose_spec T.kb1_Component_init) (passO (takes_of rfl rfl rfl rfl)) (pa_cons (pe_fldK K (xv 1)) (pa_cons (pe_callS1K K G_col_shape (hr.mono (by omega)) T.F_col_shape.kp (by rfl) T.g_col_shape pass0 (xv 7)) pa_nil)) (pk_cons (pe_callTy (call_tupleK K) (by rfl) T.m_tuple (by decide +kernel) (pa_cons (xv 4) pa_nil)) (pk_cons (pe_callTy (call_tupleK K) (by rfl) T.m_tuple (by decide +kernel) (pa_cons (xv 2) pa_nil)) (pk_cons (pe_tup (pa_cons (pe_tup (pa_cons (xv 5) (pa_cons pe_int (pa_cons pe_int pa_nil)))) pa_nil)) (pk_cons (pe_tup (pa_cons (xv 9) pa_nil)) pk_nil))))))))))))))))), ?_⟩
    obtain ⟨dx, f, an, vs, vi, db, xs, h1, fa, han, hvs, hvi, hxs, hdb⟩ := hc.ex
    obtain ⟨dy, g, an2, vs2, vi2, db2, xs2, k1, ga, han2, hvs2, hvi2, hxs2, hdb2⟩ := hh.ex
    obtain ⟨p5, x5, e5, hp5, hx5⟩ := dp_tup fa.gi
    obtain ⟨p7, x7, e7, hp7, hx7⟩ := dp_tup fa.de
    obtain ⟨q1, y1, f1, hq1, hy1⟩ := dp_tup ga.tk
    have n5 := gc.g2.1
    have n7 := gc.d2.1
    have n1 := gh.t2.1
    refine ⟨fun σ H' => ∃ (D : Addr) (hv : List V) (G' : Hp), σ = [some (.ref x), some (.ref y), some (.ref D), none, none, none, none, none, none, none, none, none, none, none, none] ∧ Same G G' ∧ Sep G' M H' ∧ G' D = some (.lst hv) ∧ DpAll K G' hv ((stHd c).map d3), ?_, fun σ H1 h => ?_⟩
    · refine ⟨x, T.C_Component, dx, _, _, rfl, S.st h1, T.cl_Component, T.na_Component_gives, Fs.g_gives, p5, e5, ⟨_, S.t hp5⟩, fun D nD => lc_dpT S nD hp5 hx5 ((stHd c).map d3) (by simp [stHd]) (by rw [List.length_map]; omega) (fun i y e d G2 H2 us R he hd hxe s2 S2 hR => ?_) (fun G2 H2 us s2 S2 hw => ?_)⟩
      · unfold stHd at hd
        rw [List.map_map, List.getElem?_map] at hd
        rw [List.getElem?_map] at he
        obtain ⟨r, hr1, rfl⟩ := Option.map_eq_some_iff.mp he
        rw [hr1] at hd
        cases hd
        obtain ⟨a, ys, rfl, ha, hy⟩ := dp_tup hxe
        obtain ⟨z1, r1, rfl, hz1, hy⟩ := dpa_cons hy
        obtain ⟨z2, r2, rfl, hz2, hy⟩ := dpa_cons hy
        obtain ⟨z3, r3, rfl, hz3, hy⟩ := dpa_cons hy
        obtain rfl := dpa_nil hy
        refine ⟨a, _, rfl, S2.t ha, rfl, _, _, rfl, _, _, rfl, _, _, rfl, rfl, rfl, sz, fun t nt => ?_⟩
        obtain ⟨G3, s3, S3, h3⟩ := dp_mk (K := K) S2 nt (.cons hz1 (.cons hz2 (.cons (.int 0) .nil)))
        exact hR _ G3 _ s3 S3 h3
      · obtain ⟨G3, s3, S3, h3⟩ := Sep.keep S2
        exact ⟨D, us, G3, rfl, s2.trans s3, S3, h3, dpa_same s3 hw⟩
    obtain ⟨D, hv, G1, rfl, s1, S1, hD, hhv⟩ := h
    have gt : (g.l ch (Fs.rest an2 vs2 vi2 (.ref db2))).lookup ("takes" : Str) = some (V.ref q1) := by rw [← f1]; exact Fs.g_takes
    have yl := dpa_len hy1
    rw [List.length_map] at yl
    have hl5 : (stHd c).length ≤ 2 := by unfold stHd; rw [List.length_map]; exact n5
    refine ⟨fun σ H' => ∃ (l : Addr) (G' : Hp), σ = [some (.ref x), some (.ref y), some (.ref D), some (.ref l), none, none, none, none, none, none, none, none, none, none, none] ∧ Same G1 G' ∧ Sep G' M H' ∧ G' l = some (.lst ((stSp c ch).map V.str)), ?_, fun σ H2 h => ?_⟩
    · refine ⟨D, rfl, ⟨_, S1.l (SqL.of hD)⟩, fun D2 nD2 => lc_dpL S1 nD2 (fun G' H' l s' S' => S'.l (same_l s' (SqL.of hD))) hhv (c.gives.map fun r => .str r.1) (by simp [stHd]) (by rw [List.length_map]; omega) (fun i y e d G2 H2 us R he hd hxe s2 S2 hR => ?_) (fun G2 H2 us s2 S2 hw => ?_)⟩
      · unfold stHd at he
        rw [List.map_map, List.getElem?_map] at he
        rw [List.getElem?_map] at hd
        obtain ⟨r, hr1, rfl⟩ := Option.map_eq_some_iff.mp he
        rw [hr1] at hd
        cases hd
        obtain ⟨a, ys, rfl, ha, hy⟩ := dp_tup hxe
        obtain ⟨z1, r1, rfl, hz1, hy⟩ := dpa_cons hy
        exact ⟨rfl, _, _, .inr (S2.t ha), at0, hR _ G2 _ (Same.refl _) S2 hz1⟩
      · have ew : us = (c.gives.map (·.1)).map V.str := dpa_strs (by rw [List.map_map]; exact hw)
        subst ew
        obtain ⟨G3, s3, S3, h3⟩ := Sep.keep S2
        have t3 := s1.trans (s2.trans s3)
        refine ⟨y, T.C_Component, dy, _, .ref q1, rfl, S3.st (t3 _ _ k1), T.cl_Component, T.na_Component_takes, gt, _, .inr (S3.t (same_t t3 hq1)), G3, M, D2, c.gives.map (·.1), y1.length + 1, rfl, S3, SqL.of h3, fun l G4 H4 s4 S4 hl => ⟨l, G4, rfl, s2.trans (s3.trans s4), S4, ?_⟩⟩
        rw [hl, yl]
        rfl
    obtain ⟨l, G2, rfl, s2, S2, hl⟩ := h
    have t2 := s1.trans s2
    refine ⟨fun σ H' => ∃ (D4 : Addr) (tv : List V) (G' : Hp), σ = [some (.ref x), some (.ref y), some (.ref D), some (.ref l), some (.ref D4), none, none, none, none, none, none, none, none, none, none] ∧ Same G2 G' ∧ Sep G' M H' ∧ G' D4 = some (.lst tv) ∧ DpAll K G' tv ((stTk c ch).map d2), ?_, fun σ H3 h => ?_⟩
    · refine ⟨y, T.C_Component, dy, _, .ref q1, rfl, S2.st (t2 _ _ k1), T.cl_Component, T.na_Component_takes, gt, q1, y1, rfl, S2.t (same_t t2 hq1), fun D4 nD4 => lc_dp (K := K) (walk_enumT (K := K) (xs := y1)) S2 nD4 ((stTk c ch).map d2) ?_ (by omega) (fun G' H' ws s' S' => S'.t (same_t (t2.trans s') hq1)) (fun i y d G' H' H2 ws R hi hd s' S' yy hR => ?_) (fun G3 H3 ws s3 S3 hw => ?_)⟩
      · have := congrArg List.length F.tk
        rw [List.length_map, List.length_take, F.len] at this
        rw [List.length_map, this, yl]
        omega
      · obtain ⟨T2, a1, a2, rfl, nT2, rfl, ha1, ha2⟩ := yy
        cases ha1
        obtain ⟨dd, hdd, hud⟩ := dpa_get hy1 ha2
        rw [List.getElem?_map] at hdd hd
        obtain ⟨r, hr1, rfl⟩ := Option.map_eq_some_iff.mp hdd
        have hil : i < (stSp c ch).length := by rw [F.len]; omega
        have hsp : (stSp c ch)[i]? = some (stSp c ch)[i] := List.getElem?_eq_getElem hil
        have htk : (stTk c ch)[i]? = some ((stSp c ch)[i], r.2) := by
          unfold stTk
          refine List.getElem?_zip_eq_some.mpr ⟨?_, by rw [List.getElem?_map, hr1]; rfl⟩
          rw [List.getElem?_take]
          rw [if_pos (by omega)]
          exact hsp
        rw [htk] at hd
        cases hd
        obtain ⟨a, ys, rfl, ha, hy⟩ := dp_tup (dp_same (t2.trans s') hud)
        obtain ⟨z1, r1, rfl, hz1, hy⟩ := dpa_cons hy
        obtain ⟨z2, r2, rfl, hz2, hy⟩ := dpa_cons hy
        obtain rfl := dpa_nil hy
        have S19 := S'.newG (o := .tup [.int (i : Nat), .ref a]) nT2
        have s19 := S'.grow (o := .tup [.int (i : Nat), .ref a]) nT2
        refine ⟨T2, _, rfl, SqT.of upd_same, rfl, _, _, rfl, _, _, rfl, rfl, rfl, _, _, .inl (SqL.of (S19.st (s19 _ _ (s' _ _ hl)))), atI_nat (by rw [List.getElem?_map, hsp]; rfl), _, _, .inr (S19.t (same_t s19 ha)), atI_nat (j := 1) rfl, sz, fun t nt => ?_⟩
        obtain ⟨G3, s3, S3, h3⟩ := dp_mk (K := K) S19 nt (.cons (.str _) (.cons (dp_same s19 hz2) .nil))
        exact hR _ G3 _ (s19.trans s3) S3 h3
      · obtain ⟨G4, s4, S4, h4⟩ := Sep.keep S3
        exact ⟨D4, ws, G4, rfl, s3.trans s4, S4, h4, dpa_same s4 hw⟩
    obtain ⟨D4, tv, G3, rfl, s3, S3, hD4, htv⟩ := h
    have t3 := t2.trans s3
    refine ⟨y, T.C_Component, dy, _, .ref q1, rfl, S3.st (t3 _ _ k1), T.cl_Component, T.na_Component_takes, gt, _, .inr (S3.t (same_t t3 hq1)), _, _, .inl (SqL.of (S3.st (s3 _ _ hl))), atI_nat (v := V.str (stCell c ch)) (j := y1.length) (show ((stSp c ch).map V.str)[y1.length]? = _ by rw [List.getElem?_map, yl, F.cell]; rfl), ?_⟩
    refine ⟨fun σ H' => ∃ (G' : Hp), σ = [some (.ref x), some (.ref y), some (.ref D), some (.ref l), some (.ref D4), some (.str (stCell c ch)), some (.str (stOwn c)), none, none, none, none, none, none, none, none] ∧ Same G3 G' ∧ Sep G' M H', ?_, fun σ H4 h => ?_⟩
    · exact ⟨G3, M, x, c, rfl, S3, hc.same t3, gc, c16, fun l2 G4 H4 s4 S4 hl2 => ⟨G4, M, l2, wordsC c, 1, rfl, S4, SqL.of hl2, fun l3 G5 H5 s5 S5 hl3 => ⟨_, _, .inl (SqL.of (S5.st hl3)), atI_nat (j := 0) (by rw [List.getElem?_map, F.own]; rfl), G5, rfl, s4.trans s5, S5⟩⟩⟩
    obtain ⟨G4, rfl, s4, S4⟩ := h
    have t4 := t3.trans s4
    have l4 : tv.length = ch.takes.length := by
      have := dpa_len htv
      rw [List.length_map] at this
      have h2 := congrArg List.length F.tk
      rw [List.length_map, List.length_take, F.len] at h2
      omega
    have lv : hv.length ≤ 2 := by
      have := dpa_len hhv
      rw [List.length_map] at this
      omega
    have ds12 : DpAll K G3 (tv ++ hv) ((stTk c ch).map d2 ++ (stHd c).map d3) := dpa_app htv (dpa_same (s2.trans s3) hhv)
    refine ⟨fun σ H' => ∃ (D5 : Addr) (us : List V) (G' : Hp), σ = [some (.ref x), some (.ref y), some (.ref D), some (.ref l), some (.ref D4), some (.str (stCell c ch)), some (.str (stOwn c)), some (.ref D5), none, none, none, none, none, none, none] ∧ Same G4 G' ∧ Sep G' ((D5, .lst us) :: M) H' ∧ DpAll K G' us ((((stTk c ch).map (·.1) ++ (stHd c).map (·.1)).map txS).map toD), ?_, fun σ H5 h => ?_⟩
    · refine ⟨D4, D, tv, hv, rfl, rfl, S4.st (s4 _ _ hD4), S4.st (s4 _ _ (s3 _ _ (s2 _ _ hD))), small (by omega), fun l5 n5 => ?_⟩
      obtain ⟨G5, s5, S5, h5⟩ := Sep.mk (o := .lst (tv ++ hv)) S4 n5
      have ml : ((stTk c ch).map d2 ++ (stHd c).map d3).length ≤ 100 := by
        have h2 := dpa_len ds12
        rw [List.length_append] at h2
        omega
      refine ⟨l5, rfl, ⟨_, S5.l (SqL.of h5)⟩, fun D5 nD5 => lc_dpL S5 nD5 (fun G' H' l s' S' => S'.l (same_l s' (SqL.of h5))) (dpa_same (s4.trans s5) ds12) ((((stTk c ch).map (·.1) ++ (stHd c).map (·.1)).map txS).map toD) (by simp) (by omega) (fun i y e d G2 H2 us R he hd hxe s2 S2 hR => ?_) (fun G2 H2 us s2 S2 hw => ?_)⟩
      · rw [List.map_map, List.getElem?_map] at hd
        obtain ⟨z, hz, rfl⟩ := Option.map_eq_some_iff.mp hd
        have ez : ∃ r, e = .tuple (.str z :: r) := by
          by_cases hi : i < (stTk c ch).length
          · rw [List.getElem?_append_left (by rw [List.length_map]; exact hi), List.getElem?_map] at he hz
            obtain ⟨r, hr1, rfl⟩ := Option.map_eq_some_iff.mp he
            rw [hr1] at hz
            cases hz
            exact ⟨_, rfl⟩
          · rw [List.getElem?_append_right (by rw [List.length_map]; omega), List.length_map, List.getElem?_map] at he hz
            obtain ⟨r, hr1, rfl⟩ := Option.map_eq_some_iff.mp he
            rw [hr1] at hz
            cases hz
            exact ⟨_, rfl⟩
        obtain ⟨es, rfl⟩ := ez
        obtain ⟨a, ys, rfl, ha, hy⟩ := dp_tup hxe
        obtain ⟨z1, r1, rfl, hz1, hy⟩ := dpa_cons hy
        obtain rfl := dp_str hz1
        refine ⟨rfl, _, _, .inr (S2.t ha), at0, sz, fun t nt => ?_⟩
        obtain ⟨G6, s6, S6, h6⟩ := dp_mk (K := K) (ds := [.str "get", .str z]) S2 nt (.cons (.str _) (.cons (.str _) .nil))
        exact ⟨G6, _, rfl, S6, fun q2 G7 H7 s7 h7 S7 => hR _ G7 H7 (s6.trans s7) S7 (.tup (SqT.of h7) (.cons (.str _) (.cons (dp_same s7 h6) .nil)))⟩
      · exact ⟨D5, us, G2, rfl, s5.trans s2, S2, hw⟩
    obtain ⟨D5, us, G5, rfl, s5, S5, hus⟩ := h
    have t5 := t4.trans s5
    have ul := dpa_len hus
    rw [List.length_map, List.length_map, List.length_append, List.length_map, List.length_map] at ul
    have ul : us.length ≤ 100 := by
      have h2 := dpa_len htv
      rw [List.length_map] at h2
      omega
    refine ⟨.inl ⟨rfl, _, SqL.of S5.hd⟩, sz, fun t nt => ?_⟩
    obtain ⟨G6, s6, S6, h6⟩ := dp_mk (K := K) (ds := [.str "get", .str (stCell c ch)]) S5 nt (.cons (.str _) (.cons (.str _) .nil))
    refine ⟨G6, _, rfl, S6, fun q2 G7 H7 s7 h7 S7 => ⟨D5, _, _, rfl, rfl, S7.hd, smallL (by omega), ?_⟩⟩
    have S8 := S7.set (o' := .lst (us ++ [.ref q2]))
    have hus8 : DpAll K G7 (us ++ [.ref q2]) ((((stTk c ch).map (·.1) ++ (stHd c).map (·.1)).map txS ++ [txS (stCell c ch)]).map toD) := by
      rw [List.map_append]
      exact dpa_app (dpa_same (s6.trans s7) hus) (dpa_one (.tup (SqT.of h7) (.cons (.str _) (.cons (dp_same s7 h6) .nil))))
    refine ⟨.inl ⟨rfl, _, SqL.of S8.hd⟩, G7, _, rfl, S8, fun q3 G9 H9 s9 h9 S9 => ⟨D5, _, _, rfl, rfl, S9.hd, smallL (by rw [List.length_append]; simp only [List.length_cons, List.length_nil]; omega), ?_⟩⟩
    have S10 := S9.set (o' := .lst (us ++ [.ref q2] ++ [.ref q3]))
    have hus10 : DpAll K G9 (us ++ [.ref q2] ++ [.ref q3]) ((((stTk c ch).map (·.1) ++ (stHd c).map (·.1)).map txS ++ [txS (stCell c ch), btS (stOwn c)]).map toD) := by
      have e : (((stTk c ch).map (·.1) ++ (stHd c).map (·.1)).map txS ++ [txS (stCell c ch), btS (stOwn c)]).map toD = (((stTk c ch).map (·.1) ++ (stHd c).map (·.1)).map txS ++ [txS (stCell c ch)]).map toD ++ [toD (btS (stOwn c))] := by
        simp
      rw [e]
      exact dpa_app (dpa_same s9 hus8) (dpa_one (.tup (SqT.of h9) (.cons (.str _) (.cons (.str _) .nil))))
    have t9 := t5.trans (s6.trans (s7.trans s9))
    have l10 : (us ++ [V.ref q2] ++ [V.ref q3]).length ≤ 102 := by
      rw [List.length_append, List.length_append]
      simp only [List.length_cons, List.length_nil]
      omega
    generalize us ++ [V.ref q2] ++ [V.ref q3] = us3 at S10 hus10 l10
    refine ⟨x, T.C_Component, dx, _, _, rfl, S10.st (t9 _ _ h1), T.cl_Component, T.na_Component_deeds, Fs.g_deeds, p7, e7, ⟨_, S10.t (same_t t9 hp7)⟩, for_tup (xs := x7) (fun i σ H' => ∃ (y8 : Option V) (us : List V) (G' : Hp), σ = [some (.ref x), some (.ref y), some (.ref D), some (.ref l), some (.ref D4), some (.str (stCell c ch)), some (.str (stOwn c)), some (.ref D5), y8, none, none, none, none, none, none] ∧ Same G9 G' ∧ Sep G' ((D5, .lst us) :: M) H' ∧ us.length ≤ 102 + i ∧
      DpAll K G' us ((((stTk c ch).map (·.1) ++ (stHd c).map (·.1)).map txS ++ ([txS (stCell c ch), btS (stOwn c)] ++ (c.deeds.take i).map fun r => btS r.1)).map toD)) ⟨_, us3, G9, rfl, Same.refl _, S10, by omega, by rw [List.take_zero, List.map_nil, List.append_nil]; exact hus10⟩ (fun i σ H' _ h => ?_) (fun i yy σ H' hx h => ?_) (fun σ H' h => ?_)⟩
    · obtain ⟨_, _, G', _, s', S', _⟩ := h
      exact S'.t (same_t (t9.trans s') hp7)
    · obtain ⟨y8, us, G', rfl, s', S', ul, hu⟩ := h
      obtain ⟨dd, hdd, hud⟩ := dpa_get hx7 hx
      rw [List.getElem?_map] at hdd
      obtain ⟨r, hr1, rfl⟩ := Option.map_eq_some_iff.mp hdd
      have il := (List.getElem?_eq_some_iff.mp hr1).1
      obtain ⟨a, ys, rfl, ha, hy⟩ := dp_tup (dp_same (t9.trans s') hud)
      obtain ⟨z1, r1, rfl, hz1, _⟩ := dpa_cons hy
      obtain rfl := dp_str hz1
      refine ⟨.inl ⟨rfl, _, SqL.of S'.hd⟩, _, _, .inr (S'.t ha), at0, G', _, rfl, S', fun q4 G10 H10 s10 h10 S11 => ⟨D5, _, _, rfl, rfl, S11.hd, smallL (by omega), ?_⟩⟩
      refine ⟨_, us ++ [.ref q4], G10, rfl, s'.trans s10, S11.set, by rw [List.length_append]; simp only [List.length_cons, List.length_nil]; omega, ?_⟩
      have e : (((stTk c ch).map (·.1) ++ (stHd c).map (·.1)).map txS ++ ([txS (stCell c ch), btS (stOwn c)] ++ (c.deeds.take (i + 1)).map fun r => btS r.1)).map toD = (((stTk c ch).map (·.1) ++ (stHd c).map (·.1)).map txS ++ ([txS (stCell c ch), btS (stOwn c)] ++ (c.deeds.take i).map fun r => btS r.1)).map toD ++ [toD (btS r.1)] := by
        rw [XL.take_snoc hr1]
        simp
      rw [e]
      exact dpa_app (dpa_same s10 hu) (dpa_one (.tup (SqT.of h10) (.cons (.str _) (.cons (.str _) .nil))))
    obtain ⟨y8, us5, G11, rfl, s11, S11, ul5, hu5⟩ := h
    have e7' : c.deeds.take x7.length = c.deeds := List.take_of_length_le (by
      have := dpa_len hx7
      rw [List.length_map] at this
      omega)
    rw [e7'] at hu5
    have hu5 : DpAll K G11 us5 ((stParts c ch).map toD) := hu5
    have t11 := t9.trans s11
    have us5l : us5.length ≤ 120 := by
      have := dpa_len hx7
      rw [List.length_map] at this
      omega
    -- flip
    refine ⟨G11, _, stCell c ch, rfl, S11, fun vo G12 H12 s12 ho S12 => ⟨sz, fun t1 m1 => ⟨sz, fun t2 m2 => ⟨sz, fun t3 m3 => ?_⟩⟩⟩⟩
    obtain ⟨G13, s13, S13, d13⟩ := dp_mk (K := K) S12 m1 (.cons (.str (stCell c ch)) (.cons ho .nil))
    obtain ⟨G14, s14, S14, d14⟩ := dp_mk (K := K) S13 m2 (.cons d13 .nil)
    obtain ⟨G15, s15, S15, d15⟩ := dp_mk (K := K) S14 m3 (.cons (.str (stOwn c)) (.cons d14 (.cons (.bl false) .nil)))
    have t15 := t11.trans (s12.trans (s13.trans (s14.trans s15)))
    refine ⟨y, T.C_Component, dy, _, _, rfl, S15.st (t15 _ _ k1), T.cl_Component, T.na_Component_name, Fs.g_name, D5, us5, rfl, .inr (SqL.of S15.hd), [], us5, rfl, rfl, small (by omega), fun p16 n16 => ?_⟩
    obtain ⟨G16, s16, S16, d16⟩ := dp_mk (K := K) S15 n16 (dpa_same (s12.trans (s13.trans (s14.trans s15))) hu5)
    refine ⟨G16, _, rfl, S16, fun p17 G17 H17 s17 h17 S17 => ?_⟩
    have d17 : Dp K G17 (.ref p17) (toD (.line true (stParts c ch))) := by
      simp only [toD, toDs_eq]
      exact .tup (SqT.of h17) (.cons (.str _) (.cons (dp_same s17 d16) .nil))
    have t17 := t15.trans (s16.trans s17)
    have t417 := s4.trans (s5.trans (s6.trans (s7.trans (s9.trans (s11.trans (s12.trans (s13.trans (s14.trans (s15.trans (s16.trans s17))))))))))
    have S17 := Sep.drop S17
    refine ⟨D4, tv, rfl, .inl ⟨SqL.of (S17.st (t417 _ _ hD4)), fun t18 n18 => ?_⟩⟩
    obtain ⟨G18, s18, S18, d18⟩ := dp_mk (K := K) S17 n18 (dpa_same t417 htv)
    have t118 := s2.trans (s3.trans (t417.trans s18))
    refine ⟨D, hv, rfl, .inl ⟨SqL.of (S18.st (t118 _ _ hD)), fun t19 n19 => ?_⟩⟩
    obtain ⟨G19, s19, S19, d19⟩ := dp_mk (K := K) S18 n19 (dpa_same t118 hhv)
    refine ⟨sz, fun t20 n20 => ⟨sz, fun t21 n21 => ⟨sz, fun t22 n22 => ?_⟩⟩⟩
    obtain ⟨G20, s20, S20, d20⟩ := dp_mk (K := K) (ds := [.str (stCell c ch), .int 2, .int 0]) S19 n20 (.cons (.str _) (.cons (.int _) (.cons (.int _) .nil)))
    obtain ⟨G21, s21, S21, d21⟩ := dp_mk (K := K) S20 n21 (.cons d20 .nil)
    have t1621 := s16.trans (s17.trans (s18.trans (s19.trans (s20.trans s21))))
    obtain ⟨G22, s22, S22, d22⟩ := dp_mk (K := K) S21 n22 (.cons (dp_same t1621 d15) .nil)
    have t22' := t17.trans (s18.trans (s19.trans (s20.trans (s21.trans s22))))
    refine ⟨rfl, rfl, fun x2 dx2 nx nd ne => ?_⟩
    have S23 := Sep.new2 (o := .ins T.C_Component dx2 []) (u := .own x2) S22 nx nd ne
    refine ⟨G22, _, x2, dx2, stubC c ch, ⟨.ref p17, .ref t18, .ref t19, .ref t21, .ref T.ke_Component_init_asks, .ref T.ke_Component_init_gives, .ref T.ke_Component_init_effects, .ref t22, .non, .non⟩, .none, rfl, S23, ?_, stub_good gc gh c16, .inl ⟨rfl, rfl⟩, ?_, fun cs G24 H24 s24 hcp S24 => ?_, fun cs G24 H24 N dd s24 S24 ndd => ?_⟩
    · have e1 := s18.trans (s19.trans (s20.trans (s21.trans s22)))
      refine ⟨dp_same e1 d17, dp_same (s19.trans (s20.trans (s21.trans s22))) d18, dp_same (s20.trans (s21.trans s22)) d19, dp_same s22 d21, .tup (T.kq_Component_init_asks _) .nil, .tup (T.kq_Component_init_gives _) .nil, .tup (T.kq_Component_init_effects _) .nil, d22, .non, .non⟩
    · have := stub_cnt F
      omega
    · exact ⟨rfl, q cs x2 G24 H24 (t22'.trans s24) hcp S24.drop⟩
    · exact qx cs G24 H24 (N ++ [(dx2, .own x2)]) dd (t22'.trans s24) (by rw [List.append_assoc]; exact S24) ndd

end
end K57
set_option Elab.async false
set_option linter.all false
set_option maxRecDepth 100000
set_option maxHeartbeats 4000000
namespace K57
open PySem PySem.Spec PyProof.Rows L2 XL
/-! ### a component as the law's dict -/
theorem kv_ne {a b : Str} {v : V} {r : List (Key × V)} (h : decide (a = b) = false := by decide +kernel) : valV ((Sum.inr a, v) :: r) (Sum.inr b : Key) = valV r (Sum.inr b) := valV_neg fun e => of_decide_eq_false h (Sum.inr.inj e)
theorem kv_eq {a : Str} {v : V} {r : List (Key × V)} : valV ((Sum.inr a, v) :: r) (Sum.inr a : Key) = some v := valV_pos rfl
theorem pk_eq {a : Str} {v w : V} {r : List (Key × V)} (h : valV r (Sum.inr a) = none) : putK ((Sum.inr a, v) :: r) (Sum.inr a : Key) w = (Sum.inr a, w) :: r := by
  unfold putK
  have e1 : (((Sum.inr a, v) :: r : List (Key × V)).any fun kv => decide (kv.1 = (Sum.inr a : Key))) = true := by rw [valV_any, kv_eq]; rfl
  rw [if_pos e1, List.map_cons, if_pos rfl]
  have e2 : ∀ p ∈ r, ¬ p.1 = (Sum.inr a : Key) := fun p hp e => by
    have : (r.any fun kv => decide (kv.1 = (Sum.inr a : Key))) = true := List.any_eq_true.mpr ⟨p, hp, decide_eq_true e⟩
    rw [valV_any, h] at this
    cases this
  refine congrArg _ ((List.map_congr_left (g := id) fun p hp => ?_).trans (List.map_id r))
  rw [if_neg (e2 p hp)]
  rfl
theorem pk_ne {a b : Str} {v w : V} {r : List (Key × V)} (hs : (valV r (Sum.inr b)).isSome = true) (h : decide (a = b) = false := by decide +kernel) : putK ((Sum.inr a, v) :: r) (Sum.inr b : Key) w = (Sum.inr a, v) :: putK r (Sum.inr b) w := by
  have ne : ¬ (Sum.inr a : Key) = Sum.inr b := fun e => of_decide_eq_false h (Sum.inr.inj e)
  unfold putK
  have e1 : (((Sum.inr a, v) :: r : List (Key × V)).any fun kv => decide (kv.1 = (Sum.inr b : Key))) = true := by rw [valV_any, kv_ne h]; exact hs
  have e2 : (r.any fun kv => decide (kv.1 = (Sum.inr b : Key))) = true := by rw [valV_any]; exact hs
  rw [if_pos e1, if_pos e2, List.map_cons, if_neg ne]
theorem kv_nil {b : Str} : valV ([] : List (Key × V)) (Sum.inr b) = none := rfl
def Fs.k (c : Cp) (f : Fs) : List (Key × V) :=
  [(Sum.inr "name", V.str c.name), (Sum.inr "shape", f.sh), (Sum.inr "takes", f.tk), (Sum.inr "hears", f.he), (Sum.inr "cells", f.ce), (Sum.inr "asks", f.ak), (Sum.inr "gives", f.gi), (Sum.inr "effects", f.ef), (Sum.inr "deeds", f.de), (Sum.inr "looks", f.lo), (Sum.inr "island", f.il)]
theorem Fs.k_len (c : Cp) (f : Fs) : (f.k c).length = 11 := rfl
theorem Fs.kv_name {c : Cp} {f : Fs} : valV (f.k c) (Sum.inr "name" : Key) = some (V.str c.name) := by
  unfold Fs.k
  rw [kv_eq]
theorem Fs.dg_name {H : Hp} {D : Addr} {c : Cp} {f : Fs} (h : H D = some (.dK (f.k c))) : DGet H D (.str "name") (some (V.str c.name)) := by
  rw [← Fs.kv_name (c := c) (f := f)]
  exact DGet.k (k := Sum.inr "name") h
theorem Fs.kv_shape {c : Cp} {f : Fs} : valV (f.k c) (Sum.inr "shape" : Key) = some (f.sh) := by
  unfold Fs.k
  rw [kv_ne, kv_eq]
theorem Fs.dg_shape {H : Hp} {D : Addr} {c : Cp} {f : Fs} (h : H D = some (.dK (f.k c))) : DGet H D (.str "shape") (some (f.sh)) := by
  rw [← Fs.kv_shape (c := c) (f := f)]
  exact DGet.k (k := Sum.inr "shape") h
theorem Fs.pk_shape {c : Cp} {f : Fs} {v : V} : putK (f.k c) (Sum.inr "shape" : Key) v = ({ f with sh := v } : Fs).k c := by
  unfold Fs.k
  rw [pk_ne, pk_eq]
  all_goals (repeat (first | rw [kv_ne] | rw [kv_eq] | rw [kv_nil])) <;> rfl
theorem Fs.kv_takes {c : Cp} {f : Fs} : valV (f.k c) (Sum.inr "takes" : Key) = some (f.tk) := by
  unfold Fs.k
  rw [kv_ne, kv_ne, kv_eq]
theorem Fs.dg_takes {H : Hp} {D : Addr} {c : Cp} {f : Fs} (h : H D = some (.dK (f.k c))) : DGet H D (.str "takes") (some (f.tk)) := by
  rw [← Fs.kv_takes (c := c) (f := f)]
  exact DGet.k (k := Sum.inr "takes") h
theorem Fs.pk_takes {c : Cp} {f : Fs} {v : V} : putK (f.k c) (Sum.inr "takes" : Key) v = ({ f with tk := v } : Fs).k c := by
  unfold Fs.k
  rw [pk_ne, pk_ne, pk_eq]
  all_goals (repeat (first | rw [kv_ne] | rw [kv_eq] | rw [kv_nil])) <;> rfl
theorem Fs.kv_hears {c : Cp} {f : Fs} : valV (f.k c) (Sum.inr "hears" : Key) = some (f.he) := by
  unfold Fs.k
  rw [kv_ne, kv_ne, kv_ne, kv_eq]
theorem Fs.dg_hears {H : Hp} {D : Addr} {c : Cp} {f : Fs} (h : H D = some (.dK (f.k c))) : DGet H D (.str "hears") (some (f.he)) := by
  rw [← Fs.kv_hears (c := c) (f := f)]
  exact DGet.k (k := Sum.inr "hears") h
theorem Fs.pk_hears {c : Cp} {f : Fs} {v : V} : putK (f.k c) (Sum.inr "hears" : Key) v = ({ f with he := v } : Fs).k c := by
  unfold Fs.k
  rw [pk_ne, pk_ne, pk_ne, pk_eq]
  all_goals (repeat (first | rw [kv_ne] | rw [kv_eq] | rw [kv_nil])) <;> rfl
theorem Fs.kv_cells {c : Cp} {f : Fs} : valV (f.k c) (Sum.inr "cells" : Key) = some (f.ce) := by
  unfold Fs.k
  rw [kv_ne, kv_ne, kv_ne, kv_ne, kv_eq]
theorem Fs.dg_cells {H : Hp} {D : Addr} {c : Cp} {f : Fs} (h : H D = some (.dK (f.k c))) : DGet H D (.str "cells") (some (f.ce)) := by
  rw [← Fs.kv_cells (c := c) (f := f)]
  exact DGet.k (k := Sum.inr "cells") h
theorem Fs.pk_cells {c : Cp} {f : Fs} {v : V} : putK (f.k c) (Sum.inr "cells" : Key) v = ({ f with ce := v } : Fs).k c := by
  unfold Fs.k
  rw [pk_ne, pk_ne, pk_ne, pk_ne, pk_eq]
  all_goals (repeat (first | rw [kv_ne] | rw [kv_eq] | rw [kv_nil])) <;> rfl
theorem Fs.kv_asks {c : Cp} {f : Fs} : valV (f.k c) (Sum.inr "asks" : Key) = some (f.ak) := by
  unfold Fs.k
  rw [kv_ne, kv_ne, kv_ne, kv_ne, kv_ne, kv_eq]
theorem Fs.dg_asks {H : Hp} {D : Addr} {c : Cp} {f : Fs} (h : H D = some (.dK (f.k c))) : DGet H D (.str "asks") (some (f.ak)) := by
  rw [← Fs.kv_asks (c := c) (f := f)]
  exact DGet.k (k := Sum.inr "asks") h
theorem Fs.pk_asks {c : Cp} {f : Fs} {v : V} : putK (f.k c) (Sum.inr "asks" : Key) v = ({ f with ak := v } : Fs).k c := by
  unfold Fs.k
  rw [pk_ne, pk_ne, pk_ne, pk_ne, pk_ne, pk_eq]
  all_goals (repeat (first | rw [kv_ne] | rw [kv_eq] | rw [kv_nil])) <;> rfl
theorem Fs.kv_gives {c : Cp} {f : Fs} : valV (f.k c) (Sum.inr "gives" : Key) = some (f.gi) := by
  unfold Fs.k
  rw [kv_ne, kv_ne, kv_ne, kv_ne, kv_ne, kv_ne, kv_eq]
theorem Fs.dg_gives {H : Hp} {D : Addr} {c : Cp} {f : Fs} (h : H D = some (.dK (f.k c))) : DGet H D (.str "gives") (some (f.gi)) := by
  rw [← Fs.kv_gives (c := c) (f := f)]
  exact DGet.k (k := Sum.inr "gives") h
theorem Fs.pk_gives {c : Cp} {f : Fs} {v : V} : putK (f.k c) (Sum.inr "gives" : Key) v = ({ f with gi := v } : Fs).k c := by
  unfold Fs.k
  rw [pk_ne, pk_ne, pk_ne, pk_ne, pk_ne, pk_ne, pk_eq]
  all_goals (repeat (first | rw [kv_ne] | rw [kv_eq] | rw [kv_nil])) <;> rfl
theorem Fs.kv_effects {c : Cp} {f : Fs} : valV (f.k c) (Sum.inr "effects" : Key) = some (f.ef) := by
  unfold Fs.k
  rw [kv_ne, kv_ne, kv_ne, kv_ne, kv_ne, kv_ne, kv_ne, kv_eq]
theorem Fs.dg_effects {H : Hp} {D : Addr} {c : Cp} {f : Fs} (h : H D = some (.dK (f.k c))) : DGet H D (.str "effects") (some (f.ef)) := by
  rw [← Fs.kv_effects (c := c) (f := f)]
  exact DGet.k (k := Sum.inr "effects") h
theorem Fs.pk_effects {c : Cp} {f : Fs} {v : V} : putK (f.k c) (Sum.inr "effects" : Key) v = ({ f with ef := v } : Fs).k c := by
  unfold Fs.k
  rw [pk_ne, pk_ne, pk_ne, pk_ne, pk_ne, pk_ne, pk_ne, pk_eq]
  all_goals (repeat (first | rw [kv_ne] | rw [kv_eq] | rw [kv_nil])) <;> rfl
theorem Fs.kv_deeds {c : Cp} {f : Fs} : valV (f.k c) (Sum.inr "deeds" : Key) = some (f.de) := by
  unfold Fs.k
  rw [kv_ne, kv_ne, kv_ne, kv_ne, kv_ne, kv_ne, kv_ne, kv_ne, kv_eq]
theorem Fs.dg_deeds {H : Hp} {D : Addr} {c : Cp} {f : Fs} (h : H D = some (.dK (f.k c))) : DGet H D (.str "deeds") (some (f.de)) := by
  rw [← Fs.kv_deeds (c := c) (f := f)]
  exact DGet.k (k := Sum.inr "deeds") h
theorem Fs.pk_deeds {c : Cp} {f : Fs} {v : V} : putK (f.k c) (Sum.inr "deeds" : Key) v = ({ f with de := v } : Fs).k c := by
  unfold Fs.k
  rw [pk_ne, pk_ne, pk_ne, pk_ne, pk_ne, pk_ne, pk_ne, pk_ne, pk_eq]
  all_goals (repeat (first | rw [kv_ne] | rw [kv_eq] | rw [kv_nil])) <;> rfl
theorem Fs.kv_looks {c : Cp} {f : Fs} : valV (f.k c) (Sum.inr "looks" : Key) = some (f.lo) := by
  unfold Fs.k
  rw [kv_ne, kv_ne, kv_ne, kv_ne, kv_ne, kv_ne, kv_ne, kv_ne, kv_ne, kv_eq]
theorem Fs.dg_looks {H : Hp} {D : Addr} {c : Cp} {f : Fs} (h : H D = some (.dK (f.k c))) : DGet H D (.str "looks") (some (f.lo)) := by
  rw [← Fs.kv_looks (c := c) (f := f)]
  exact DGet.k (k := Sum.inr "looks") h
theorem Fs.pk_looks {c : Cp} {f : Fs} {v : V} : putK (f.k c) (Sum.inr "looks" : Key) v = ({ f with lo := v } : Fs).k c := by
  unfold Fs.k
  rw [pk_ne, pk_ne, pk_ne, pk_ne, pk_ne, pk_ne, pk_ne, pk_ne, pk_ne, pk_eq]
  all_goals (repeat (first | rw [kv_ne] | rw [kv_eq] | rw [kv_nil])) <;> rfl
theorem Fs.kv_island {c : Cp} {f : Fs} : valV (f.k c) (Sum.inr "island" : Key) = some (f.il) := by
  unfold Fs.k
  rw [kv_ne, kv_ne, kv_ne, kv_ne, kv_ne, kv_ne, kv_ne, kv_ne, kv_ne, kv_ne, kv_eq]
theorem Fs.dg_island {H : Hp} {D : Addr} {c : Cp} {f : Fs} (h : H D = some (.dK (f.k c))) : DGet H D (.str "island") (some (f.il)) := by
  rw [← Fs.kv_island (c := c) (f := f)]
  exact DGet.k (k := Sum.inr "island") h
theorem Fs.pk_island {c : Cp} {f : Fs} {v : V} : putK (f.k c) (Sum.inr "island" : Key) v = ({ f with il := v } : Fs).k c := by
  unfold Fs.k
  rw [pk_ne, pk_ne, pk_ne, pk_ne, pk_ne, pk_ne, pk_ne, pk_ne, pk_ne, pk_ne, pk_eq]
  all_goals (repeat (first | rw [kv_ne] | rw [kv_eq] | rw [kv_nil])) <;> rfl
structure PlAt (K : PySem.W.Frag) (G : Hp) (D : Addr) (c : Cp) : Prop where
  ex : ∃ f : Fs, G D = some (.dK (f.k c)) ∧ FsAt K G c f (strsD c.looks)
theorem PlAt.same {K : PySem.W.Frag} {G G' : Hp} {D : Addr} {c : Cp} (e : Same G G') (h : PlAt K G D c) : PlAt K G' D c := by
  obtain ⟨f, h1, h2⟩ := h.ex
  exact ⟨f, e _ _ h1, h2.same e⟩

section
variable {P : Program} {w : World} {K : PySem.W.Frag} {mg : Str → Option Value} {base : Heap}
/-! ### the law's Component(..) -/
def spCiC (K : PySem.W.Frag) (C Cb : Addr) : Sp := fun vs H Q _ => spCi K C Cb vs H Q E0
def spCof (K : PySem.W.Frag) (C : Addr) : Sp := fun vs H Q _ => ∃ (G : Hp) (M : List (Addr × HO)) (D : Addr) (c : Cp), vs = [.ref D] ∧ Sep G M H ∧ PlAt K G D c ∧ GdC c ∧ cnt c.shape ≤ 16 ∧ ∀ (x : Addr) (G' H' : Hp), Same G G' → CpAt K C G' x c → Sep G' M H' → Q (.ref x) H'
theorem ok_component_of (T : Top K mg w) {k : Nat} (G_Component_init : FnOk P w K mg base CX0 k T.a_Component_init T.d_Component_init ["self", "name", "shape", "takes", "hears", "cells", "asks", "gives", "effects", "deeds", "looks", "island"] (spCiC K T.C_Component T.C_BadComponent)) :
    FnOk P w K mg base CX0 (k + 2) T.a_component_of T.d_component_of ["_law_plain"] (spCof K T.C_Component) := by
  refine T.F_component_of.ok sc_component_of (fun vs H Q E h => ?_) (fun cdv A outer s H vs Q E hr h => ?_)
  · obtain ⟨G, M, D, c, rfl, _⟩ := h
    rfl
  · obtain ⟨G, M, D, c, rfl, S, hD, gc, c16, q⟩ := h
    obtain ⟨f, h1, fa⟩ := hD.ex
    have hH := S.st h1
    refine ⟨_, (pss_one (ps_ret (pe_makeK T.mk_Component G_Component_init (hr.mono (by omega)) (by rfl) T.g_Component (Exists.choose_spec T.kb0_Component_init) pass0 (pa_cons (pe_dget (hu_of hr) (xv 0) pe_str (fun _ _ => rfl)) (pa_cons (pe_dget (hu_of hr) (xv 0) pe_str (fun _ _ => rfl)) pa_nil)) (pk_cons (pe_dget (hu_of hr) (xv 0) pe_str (fun _ _ => rfl)) (pk_cons (pe_dget (hu_of hr) (xv 0) pe_str (fun _ _ => rfl)) (pk_cons (pe_dget (hu_of hr) (xv 0) pe_str (fun _ _ => rfl)) (pk_cons (pe_dget (hu_of hr) (xv 0) pe_str (fun _ _ => rfl)) (pk_cons (pe_dget (hu_of hr) (xv 0) pe_str (fun _ _ => rfl)) (pk_cons (pe_dget (hu_of hr) (xv 0) pe_str (fun _ _ => rfl)) (pk_cons (pe_dget (hu_of hr) (xv 0) pe_str (fun _ _ => rfl)) (pk_cons (pe_dget (hu_of hr) (xv 0) pe_str (fun _ _ => rfl)) (pk_cons (pe_dget (hu_of hr) (xv 0) pe_str (fun _ _ => rfl)) pk_nil)))))))))))), ?_⟩
    refine ⟨D, _, rfl, Fs.dg_name hH, D, _, rfl, Fs.dg_shape hH, D, _, rfl, Fs.dg_takes hH, D, _, rfl, Fs.dg_hears hH, D, _, rfl, Fs.dg_cells hH, D, _, rfl, Fs.dg_asks hH, D, _, rfl, Fs.dg_gives hH, D, _, rfl, Fs.dg_effects hH, D, _, rfl, Fs.dg_deeds hH, D, _, rfl, Fs.dg_looks hH, D, _, rfl, Fs.dg_island hH, rfl, rfl, fun x2 dx2 nx nd ne => ?_⟩
    have S2 := Sep.new2 (o := .ins T.C_Component dx2 []) (u := .own x2) S nx nd ne
    exact ⟨G, _, x2, dx2, c, f, strsD c.looks, rfl, S2, fa, gc, .inr rfl, by omega, fun _ G' H' s' hcp S' => ⟨rfl, q x2 G' H' s' hcp S'.drop⟩, fun big => absurd c16 (by omega)⟩

end
end K57
set_option Elab.async false
set_option linter.all false
set_option maxRecDepth 100000
set_option maxHeartbeats 4000000
namespace K57
open PySem PySem.Spec PyProof.Rows L2 XL
section
variable {P : Program} {w : World} {K : PySem.W.Frag} {mg : Str → Option Value} {base : Heap}
/-! ### the law's shapes by number -/
def spLParts (K : PySem.W.Frag) : Sp := fun vs H Q _ => ∃ (G : Hp) (M : List (Addr × HO)) (v : V) (s : Sh), vs = [v] ∧ Sep G M H ∧ Dp K G v (toD s) ∧ ∀ (l : Addr) (us : List V) (G' H' : Hp), Same G G' → G' l = some (.lst us) → DpAll K G' us ((parts s).map toD) → Sep G' M H' → Q (.ref l) H'
theorem ok_parts (T : Top K mg w) {k : Nat} : FnOk P w K mg base CX0 (k + 1) T.a_parts T.d_parts ["_law_shape"] (spLParts K) := by
  refine T.F_parts.ok sc_parts (fun vs H Q E h => ?_) (fun cdv A outer s H vs Q E hr h => ?_)
  · obtain ⟨G, M, v, sh, rfl, _⟩ := h
    rfl
  · obtain ⟨G, M, v, sh, rfl, S, hv, q⟩ := h
    refine ⟨_, (pss_cons (xs_if (PW.pt (xw_or (xt_cmp (op_eqLK K hr.u190) (pe_ix (ix_k K) (xv 0) pe_int (fun _ _ => rfl)) pe_str (nomark _)) (pw_or1 (xt_cmp (op_eqLK K hr.u190) (pe_ix (ix_k K) (xv 0) pe_int (fun _ _ => rfl)) pe_str (nomark _)))))
      (pss_one (ps_ret (pe_callTy (call_listK K) (by rfl) T.m_list (by decide +kernel) (pa_cons (pe_ix (ix_k K) (xv 0) pe_int (fun _ _ => rfl)) pa_nil))))
      pss_nil)
      (pss_cons (xs_if (xt_cmp (op_eqLK K hr.u190) (pe_ix (ix_k K) (xv 0) pe_int (fun _ _ => rfl)) pe_str (nomark _))
      (pss_one (ps_ret (pe_lst (pa_cons (pe_ix (ix_k K) (xv 0) pe_int (fun _ _ => rfl)) (pa_cons (pe_ix (ix_k K) (xv 0) pe_int (fun _ _ => rfl)) pa_nil)))))
      pss_nil)
      (pss_one (ps_ret (pe_lst pa_nil))))), ?_⟩
    obtain ⟨a, rest, rfl, ha, hr'⟩ := shp_at hv
    have hA := S.t ha
    have nil : ∀ t, H t = none → parts sh = [] → Q (.ref t) (upd H t (.lst [])) := fun t nt e => by
      obtain ⟨G1, s1, S1, h1⟩ := Sep.mk (o := .lst []) S nt
      exact q t [] G1 _ s1 h1 (by rw [e]; exact .nil) S1
    cases sh with
    | text f => exact ⟨_, _, .inr hA, at0, fun e => wd (a := "text") e, fun _ => ⟨_, _, .inr hA, at0, fun e => wd (a := "text") e, fun _ => ⟨_, _, .inr hA, at0, fun e => wd (a := "text") e, fun _ => ⟨sz, fun t nt => nil t nt rfl⟩⟩⟩⟩
    | button f => exact ⟨_, _, .inr hA, at0, fun e => wd (a := "button") e, fun _ => ⟨_, _, .inr hA, at0, fun e => wd (a := "button") e, fun _ => ⟨_, _, .inr hA, at0, fun e => wd (a := "button") e, fun _ => ⟨sz, fun t nt => nil t nt rfl⟩⟩⟩⟩
    | put c f => exact ⟨_, _, .inr hA, at0, fun e => wd (a := "put") e, fun _ => ⟨_, _, .inr hA, at0, fun e => wd (a := "put") e, fun _ => ⟨_, _, .inr hA, at0, fun e => wd (a := "put") e, fun _ => ⟨sz, fun t nt => nil t nt rfl⟩⟩⟩⟩
    | each t m kk c f => exact ⟨_, _, .inr hA, at0, fun e => wd (a := "each") e, fun _ => ⟨_, _, .inr hA, at0, fun e => wd (a := "each") e, fun _ => ⟨_, _, .inr hA, at0, fun e => wd (a := "each") e, fun _ => ⟨sz, fun t nt => nil t nt rfl⟩⟩⟩⟩
    | line c ps =>
      obtain ⟨x, r, rfl, h1, h2⟩ := dpa_cons hr'
      obtain rfl := dpa_nil h2
      obtain ⟨b, xs, rfl, hb, hx⟩ := dp_tup h1
      have fin : ∀ t, H t = none → Q (.ref t) (upd H t (.lst xs)) := fun t nt => by
        obtain ⟨G1, s1, S1, h1⟩ := Sep.mk (o := .lst xs) S nt
        exact q t xs G1 _ s1 h1 (dpa_same s1 hx) S1
      cases c with
      | false => exact ⟨_, _, .inr hA, at0, fun _ => ⟨fun _ => ⟨_, _, .inr hA, atI_nat (j := 1) rfl, b, xs, rfl, .inr (S.t hb), fin⟩, tt⟩, fun e => we (a := "row") e⟩
      | true => exact ⟨_, _, .inr hA, at0, fun e => wd (a := "col") e, fun _ => ⟨_, _, .inr hA, at0, fun _ => ⟨_, _, .inr hA, atI_nat (j := 1) rfl, b, xs, rfl, .inr (S.t hb), fin⟩, fun e => we (a := "col") e⟩⟩
    | wen f x y =>
      obtain ⟨x1, r1, rfl, h1, h2⟩ := dpa_cons hr'
      obtain ⟨x2, r2, rfl, h3, h4⟩ := dpa_cons h2
      obtain ⟨x3, r3, rfl, h5, h6⟩ := dpa_cons h4
      obtain rfl := dpa_nil h6
      refine ⟨_, _, .inr hA, at0, fun e => wd (a := "when") e, fun _ => ⟨_, _, .inr hA, at0, fun e => wd (a := "when") e, fun _ => ⟨_, _, .inr hA, at0, fun _ => ?_, fun e => we (a := "when") e⟩⟩⟩
      refine ⟨_, _, .inr hA, atI_nat (j := 2) rfl, _, _, .inr hA, atI_nat (j := 3) rfl, sz, fun t nt => ?_⟩
      obtain ⟨G1, s1, S1, h1'⟩ := Sep.mk (o := .lst [x2, x3]) S nt
      exact q t [x2, x3] G1 _ s1 h1' (.cons (dp_same s1 h3) (.cons (dp_same s1 h5) .nil)) S1
def spLNumb (K : PySem.W.Frag) (n : Nat) : Sp := fun vs H Q _ => ∃ (G : Hp) (M : List (Addr × HO)) (v : V) (s : Sh), vs = [v] ∧ Sep G M H ∧ Dp K G v (toD s) ∧ hgt s ≤ n ∧ cnt s ≤ 1000 ∧
  ∀ (l : Addr) (us : List V) (G' H' : Hp), Same G G' → G' l = some (.lst us) → DpAll K G' us ((numb s).map toD) → Sep G' M H' → Q (.ref l) H'
theorem ok_law_numbered (T : Top K mg w) (G_parts : FnOk P w K mg base CX0 1 T.a_parts T.d_parts ["_law_shape"] (spLParts K)) : ∀ n, FnOk P w K mg base CX0 (n + 2) T.a_law_numbered T.d_law_numbered ["_law_shape"] (spLNumb K n)
  | 0 => fn_false fun vs H Q E h => by
    obtain ⟨G, M, v, sh, _, _, _, h1, _⟩ := h
    rw [hgt_eq] at h1
    omega
  | n + 1 => by
    have G_law_numbered := ok_law_numbered T G_parts n
    refine T.F_law_numbered.ok sc_law_numbered (fun vs H Q E h => ?_) (fun cdv A outer s H vs Q E hr h => ?_)
    · obtain ⟨G, M, v, sh, rfl, _⟩ := h
      rfl
    · obtain ⟨G, M, v, sh, rfl, S, hv, hh, hc, q⟩ := h
      refine ⟨_, (pss_cons (ps_set (i := 1) sc_law_numbered.nd rfl (.inl rfl) (pe_lst (pa_cons (xv 0) pa_nil)))
      (pss_cons (ps_for PassesOwn.never rfl (pi_listK K (pe_call G_parts (hr.mono (by omega)) (by rfl) T.g_parts T.F_parts.kp T.b_parts .nil pass0 (pa_cons (xv 0) pa_nil))) (pg_name (i := 2) sc_law_numbered.nd rfl (.inl rfl))
      (pss_one (ps_expr (pe_bmK K PySem.F.plainAttrs_list PySem.F.slot_list_extend PySem.F.type_list_extend mt_extend (xv 1) (pa_cons (pe_call G_law_numbered (hr.mono (by omega)) (by rfl) T.g_law_numbered T.F_law_numbered.kp T.b_law_numbered .nil pass0 (pa_cons (xv 2) pa_nil)) pa_nil)))))
      (pss_one (ps_ret (xv 1))))), ?_⟩
      refine ⟨sz, fun L nL => ?_⟩
      have S1 := S.new (o := .lst [v]) nL
      refine ⟨G, _, v, sh, rfl, S1, hv, fun pa us G2 H2 s2 hpa hus S2 => ?_⟩
      have ce := cnt_eq sh
      refine ⟨pa, rfl, ⟨us, S2.l (SqL.of hpa)⟩, for_list (xs := us) (fun i σ H' => ∃ (y2 : Option V) (ws : List V) (G' : Hp), σ = [some v, some (.ref L), y2] ∧ Same G2 G' ∧ DpAll K G' ws ((sh :: numbs ((parts sh).take i)).map toD) ∧ Sep G' ((L, .lst ws) :: M) H')
        ⟨_, [v], G2, rfl, Same.refl _, dpa_one (dp_same s2 hv), S2⟩ (fun i σ H' _ h => ?_) (fun i u σ H' hu h => ?_) (fun σ H' h => ?_)⟩
      · obtain ⟨_, _, G', _, s', _, S'⟩ := h
        exact S'.l (same_l s' (SqL.of hpa))
      · obtain ⟨y2, ws, G3, rfl, s3, hws, S3⟩ := h
        obtain ⟨d, hd, hud⟩ := dpa_get hus hu
        obtain ⟨p, hp, rfl⟩ := map_get hd
        have hm := List.mem_of_getElem? hp
        have hg := hgt_part hm
        have wl := dpa_len hws
        have cl : cnt p ≤ (numbs (parts sh)).length := cnt_mem hm
        refine ⟨.inl ⟨rfl, _, SqL.of S3.hd⟩, G3, _, u, p, rfl, S3, dp_same s3 hud, by omega, by omega, fun a4 us4 G4 H4 s4 ha4 hus4 S4 => ?_⟩
        have ul := dpa_len hus4
        have tk : numbs ((parts sh).take (i + 1)) = numbs ((parts sh).take i) ++ numb p := by rw [XL.take_snoc hp, numbs_app, numbs_one]
        have tl := numbs_take_le (ps := parts sh) (i + 1)
        rw [tk, List.length_append] at tl
        rw [List.length_map, List.length_cons] at wl
        rw [List.length_map] at ul
        refine ⟨L, a4, ws, us4, rfl, rfl, S4.hd, S4.st ha4, small (by omega), _, ws ++ us4, G4, rfl, s3.trans s4, ?_, S4.set⟩
        rw [tk, ← List.cons_append, List.map_append]
        exact dpa_app (dpa_same s4 hws) hus4
      · obtain ⟨y2, ws, G3, rfl, s3, hws, S3⟩ := h
        have ul := dpa_len hus
        rw [List.length_map] at ul
        rw [ul, List.take_length, ← numb_eq] at hws
        obtain ⟨G5, s5, S5, h5⟩ := Sep.keep S3
        exact q L ws G5 _ (s2.trans (s3.trans s5)) h5 (dpa_same s5 hws) S5
/-! ### the law's spare names -/
def spLSp (K : PySem.W.Frag) : Sp := fun vs H Q _ => ∃ (G : Hp) (M : List (Addr × HO)) (p : Addr) (bs : List Str), vs = [.ref p] ∧ Sep G M H ∧ SqL K G p (bs.map V.str) ∧
  ∀ (l : Addr) (G' H' : Hp), Same G G' → Sep G' M H' → G' l = some (.lst ((spAll bs).map V.str)) → Q (.ref l) H'
theorem ok_spares (T : Top K mg w) {k : Nat} : FnOk P w K mg base CX0 (k + 1) T.a_spares T.d_spares ["_law_barred"] (spLSp K) := by
  refine T.F_spares.ok sc_spares (fun vs H Q E h => ?_) (fun cdv A outer s H vs Q E hr h => ?_)
  · obtain ⟨G, M, p, bs, rfl, _⟩ := h
    rfl
  · obtain ⟨G, M, p, bs, rfl, S, hp, q⟩ := h
    refine ⟨_, (pss_cons (ps_setLc (i := 1) (own := [("_law_one", 2)]) (by rfl) sc_spares.nd rfl rfl (sw_true rfl rfl rfl (by decide +kernel)) (pi_str pe_str) (blkOk_by (N := ["_law_barred", "_law_letters", "_law_one", "_law_told"]) (sc := defScope s_spares) (by decide +kernel)) (fun _ _ _ _ _ => (pg_name (i := 2) sc_spares.nd rfl (.inl rfl))) (fun _ _ _ _ _ => pts_nil) (fun _ _ _ _ _ => (xv 2)))
      (pss_one (ps_ret (pe_lc (own := [("_law_told", 3)]) (by rfl) sc_spares.nd (pi_listK K (pe_op op_addY (xv 1) (pe_lc (own := [("_law_one", 2)]) (by rfl) sc_spares.nd (pi_listK K (xv 1)) (blkOk_by (N := ["_law_barred", "_law_letters", "_law_one", "_law_told"]) (sc := defScope s_spares) (by decide +kernel)) (fun _ _ _ _ _ => (pg_name (i := 2) sc_spares.nd rfl (.inl rfl))) (fun _ _ _ _ _ => pts_nil) (fun _ _ _ _ _ => (pe_op op_addY pe_str (xv 2)))))) (blkOk_by (N := ["_law_barred", "_law_letters", "_law_one", "_law_told"]) (sc := defScope s_spares) (by decide +kernel)) (fun _ _ _ _ _ => (pg_name (i := 3) sc_spares.nd rfl (.inl rfl))) (fun _ _ _ _ _ => (pts_one (xt_cmp (notin_seqK K) (xv 3) (xv 0) (by rfl)))) (fun _ _ _ _ _ => (xv 3)))))), ?_⟩
    have sgn : ∀ {i : Nat} {c : Nat} {z : Str}, ("abcdefghijklmnopqrstuvwxyz" : Str).cps[i]? = some c → letS[i]? = some z → z = ⟨#[c]⟩ := fun hc hz => by
      unfold letS at hz
      rw [List.getElem?_map, Array.getElem?_toList, hc] at hz
      exact (Option.some.inj hz).symm
    refine ⟨_, rfl, fun D1 n1 => lc_dp (K := K) (walk_str (z := "abcdefghijklmnopqrstuvwxyz")) S n1 (letS.map PyData.str) (by decide +kernel) (by decide +kernel) (fun _ _ _ _ _ => trivial) (fun i y d G' H' H2 us R hi hd s' S' yy hR => ?_) (fun G2 H2 us s2 S2 hw => ?_)⟩
    · obtain ⟨rfl, c, hc, rfl⟩ := yy
      rw [List.getElem?_map] at hd
      obtain ⟨z, hz, rfl⟩ := Option.map_eq_some_iff.mp hd
      rw [sgn hc hz] at hR
      exact ⟨rfl, hR _ G' _ (Same.refl _) S' (.str _)⟩
    obtain rfl := dpa_strs hw
    obtain ⟨G3, s3, S3, h3⟩ := Sep.keep S2
    refine ⟨D1, rfl, ⟨_, S3.l (SqL.of h3)⟩, fun D2 n2 => lc_dpL S3 n2 (fun G' H' l s' S' => S'.l (same_l s' (SqL.of h3))) (dpa_of_strs letS) (letS.map fun z => .str (("a" : Str) ++ z)) (by simp) (by decide +kernel) (fun i y e d G2 H2 us R he hd hxe s4 S4 hR => ?_) (fun G4 H4 us s4 S4 hw => ?_)⟩
    · rw [List.getElem?_map] at he hd
      obtain ⟨z, hz, rfl⟩ := Option.map_eq_some_iff.mp he
      rw [hz] at hd
      cases hd
      obtain rfl := dp_str hxe
      have zl : z.length ≤ 8 := (sp52_lt z (List.mem_append_left _ (List.mem_of_getElem? hz))).hi
      refine ⟨rfl, small (by show 1 + z.length ≤ 100000; omega), fun r er => ?_⟩
      subst er
      exact hR _ G2 _ (Same.refl _) S4 (.str _)
    have ew : us = (letS.map fun z => ("a" : Str) ++ z).map V.str := dpa_strs (by rw [List.map_map]; exact hw)
    subst ew
    refine ⟨D1, D2, _, _, rfl, rfl, S4.st (s4 _ _ h3), S4.hd, by decide +kernel, fun l5 n5 => ?_⟩
    have e5 : letS.map V.str ++ (letS.map fun z => ("a" : Str) ++ z).map V.str = sp52.map V.str := by rw [← List.map_append]; rfl
    rw [e5]
    obtain ⟨G5, s5, S5, h5⟩ := Sep.mk (o := .lst (sp52.map V.str)) S4 n5
    have S5 := Sep.drop S5
    have t5 := s2.trans (s3.trans (s4.trans s5))
    refine ⟨l5, rfl, ⟨_, S5.l (SqL.of h5)⟩, fun D6 n6 => lc_dpX (K := K) (walk_list (xs := sp52.map V.str)) S5 n6 (fun i => ((sp52.take i).filter fun z => !decide (z ∈ bs)).map PyData.str) (by simp) (by decide +kernel) (fun G' H' us s' S' => S'.l (same_l s' (SqL.of h5))) (fun i y G' H' H2 us R F hi s' S' yy hR hF => ?_) (fun G6 H6 us s6 S6 hw => ?_)⟩
    · obtain ⟨rfl, hy⟩ := yy
      rw [List.getElem?_map] at hy
      obtain ⟨z, hz, rfl⟩ := Option.map_eq_some_iff.mp hy
      refine ⟨rfl, p, _, rfl, .inl (S'.l (same_l (t5.trans s') hp)), rfl, strs_flat _, ?_⟩
      show if (!inV (.str z) (bs.map V.str)) = true then _ else _
      refine tst (fun e => ?_) (fun e => ?_)
      · rw [inV_str] at e
        exact hR _ (.str z) G' _ (by rw [XL.take_snoc hz, List.filter_append, List.map_append, List.filter_cons, if_pos e]; rfl) (Same.refl _) S' (.str z)
      · rw [inV_str] at e
        exact hF (by rw [XL.take_snoc hz, List.filter_append, List.map_append, List.filter_cons, if_neg (by rw [e]; decide)]; exact List.append_nil _) G' _ (Same.refl _) S'
    · have e6 : sp52.take (sp52.map V.str).length = sp52 := by rw [List.length_map, List.take_length]
      rw [e6] at hw
      obtain rfl := dpa_strs hw
      obtain ⟨G7, s7, S7, h7⟩ := Sep.keep S6
      exact q D6 G7 _ (t5.trans (s6.trans s7)) S7 h7

end
end K57
set_option Elab.async false
set_option linter.all false
set_option maxRecDepth 100000
set_option maxHeartbeats 4000000
namespace K57
open PySem PySem.Spec PyProof.Rows L2 XL
section
variable {P : Program} {w : World} {K : PySem.W.Frag} {mg : Str → Option Value} {base : Heap}
/-! ### the law's blank, looks and words -/
def blankC (nm : Str) : Cp where
  name := nm
  shape := .line true []
  takes := []
  hears := []
  cells := []
  asks := []
  gives := []
  effs := []
  deeds := []
  looks := []
  isl := none
theorem mergeK_app : ∀ (kvs acc : List (Key × V)), ((acc ++ kvs).map (·.1)).Nodup → mergeK acc kvs = acc ++ kvs
  | [], acc, _ => (List.append_nil acc).symm
  | p :: r, acc, nd => by
    have hp : p.1 ∉ acc.map (·.1) := fun h => by
      rw [List.map_append, List.nodup_append] at nd
      exact nd.2.2 _ h _ (by simp) rfl
    show mergeK (putK acc p.1 p.2) r = _
    rw [putK_nw (valV_nn hp), mergeK_app r (acc ++ [p]) (by rw [List.append_assoc]; exact nd), List.append_assoc]
    rfl
theorem mergeK_nd {kvs : List (Key × V)} (nd : (kvs.map (·.1)).Nodup) : mergeK [] kvs = kvs := mergeK_app kvs [] nd
theorem Fs.k_nd (c : Cp) (f : Fs) : ((f.k c).map (·.1)).Nodup := by
  have e : (f.k c).map (·.1) = ([Sum.inr "name", Sum.inr "shape", Sum.inr "takes", Sum.inr "hears", Sum.inr "cells", Sum.inr "asks", Sum.inr "gives", Sum.inr "effects", Sum.inr "deeds", Sum.inr "looks", Sum.inr "island"] : List Key) := rfl
  rw [e]
  decide +kernel
def spBlank (K : PySem.W.Frag) : Sp := fun vs H Q _ => ∃ (G : Hp) (M : List (Addr × HO)) (nm : Str), vs = [.str nm] ∧ Sep G M H ∧ ∀ (D : Addr) (f : Fs) (G' H' : Hp), Same G G' → FsAt K G' (blankC nm) f (strsD []) → Sep G' ((D, .dK (f.k (blankC nm))) :: M) H' → Q (.ref D) H'
theorem ok_blank (T : Top K mg w) {k : Nat} : FnOk P w K mg base CX0 (k + 1) T.a_blank T.d_blank ["_law_called"] (spBlank K) := by
  refine T.F_blank.ok sc_blank (fun vs H Q E h => ?_) (fun cdv A outer s H vs Q E hr h => ?_)
  · obtain ⟨G, M, nm, rfl, _⟩ := h
    rfl
  · obtain ⟨G, M, nm, rfl, S, q⟩ := h
    refine ⟨_, (pss_one (ps_ret (pe_disp (pps_cons pe_str (xv 0) (pps_cons pe_str (pe_tup (pa_cons pe_str (pa_cons (pe_tup pa_nil) pa_nil))) (pps_cons pe_str (pe_tup pa_nil) (pps_cons pe_str (pe_tup pa_nil) (pps_cons pe_str (pe_tup pa_nil) (pps_cons pe_str (pe_tup pa_nil) (pps_cons pe_str (pe_tup pa_nil) (pps_cons pe_str (pe_tup pa_nil) (pps_cons pe_str (pe_tup pa_nil) (pps_cons pe_str (pe_tup pa_nil) (pps_cons pe_str pe_non pps_nil))))))))))) (by rfl) (by rfl) (fun z => by cases z) (by decide)))), ?_⟩
    refine fun D nD => ?_
    have S0 := S.new (o := .dK []) nD
    refine ⟨sz, fun t0 m0 => ⟨sz, fun t1 m1 => ⟨sz, fun t2 m2 => ⟨sz, fun t3 m3 => ⟨sz, fun t4 m4 => ⟨sz, fun t5 m5 => ⟨sz, fun t6 m6 => ⟨sz, fun t7 m7 => ⟨sz, fun t8 m8 => ⟨sz, fun t9 m9 => ?_⟩⟩⟩⟩⟩⟩⟩⟩⟩⟩
    obtain ⟨G1, s1, S1, d1⟩ := dp_mk (K := K) (xs := []) (ds := []) S0 m0 .nil
    obtain ⟨G2, s2, S2, d2'⟩ := dp_mk (K := K) (ds := [.str "col", .tuple []]) S1 m1 (.cons (.str _) (.cons d1 .nil))
    obtain ⟨G3, s3, S3, d3'⟩ := dp_mk (K := K) (xs := []) (ds := []) S2 m2 .nil
    obtain ⟨G4, s4, S4, d4⟩ := dp_mk (K := K) (xs := []) (ds := []) S3 m3 .nil
    obtain ⟨G5, s5, S5, d5⟩ := dp_mk (K := K) (xs := []) (ds := []) S4 m4 .nil
    obtain ⟨G6, s6, S6, d6⟩ := dp_mk (K := K) (xs := []) (ds := []) S5 m5 .nil
    obtain ⟨G7, s7, S7, d7⟩ := dp_mk (K := K) (xs := []) (ds := []) S6 m6 .nil
    obtain ⟨G8, s8, S8, d8⟩ := dp_mk (K := K) (xs := []) (ds := []) S7 m7 .nil
    obtain ⟨G9, s9, S9, d9⟩ := dp_mk (K := K) (xs := []) (ds := []) S8 m8 .nil
    obtain ⟨G10, s10, S10, d10⟩ := dp_mk (K := K) (xs := []) (ds := []) S9 m9 .nil
    have u9 := s10
    have u8 := s9.trans u9
    have u7 := s8.trans u8
    have u6 := s7.trans u7
    have u5 := s6.trans u6
    have u4 := s5.trans u5
    have u3 := s4.trans u4
    have u2 := s3.trans u3
    refine ⟨S10.hd, (⟨.ref t1, .ref t2, .ref t3, .ref t4, .ref t5, .ref t6, .ref t7, .ref t8, .ref t9, .non⟩ : Fs).k (blankC nm), rfl, ?_⟩
    have ek : mergeK [] ((⟨.ref t1, .ref t2, .ref t3, .ref t4, .ref t5, .ref t6, .ref t7, .ref t8, .ref t9, .non⟩ : Fs).k (blankC nm)) = (⟨.ref t1, .ref t2, .ref t3, .ref t4, .ref t5, .ref t6, .ref t7, .ref t8, .ref t9, .non⟩ : Fs).k (blankC nm) := mergeK_nd (Fs.k_nd _ _)
    refine ⟨by rw [Fs.k_len]; decide, ?_⟩
    rw [ek]
    refine q D ⟨.ref t1, .ref t2, .ref t3, .ref t4, .ref t5, .ref t6, .ref t7, .ref t8, .ref t9, .non⟩ G10 _ (s1.trans (s2.trans u2)) ?_ S10.set
    exact ⟨dp_same u2 d2', dp_same u3 d3', dp_same u4 d4, dp_same u5 d5, dp_same u6 d6, dp_same u7 d7, dp_same u8 d8, dp_same u9 d9, d10, .non⟩
def spFull (K : PySem.W.Frag) : Sp := fun vs H Q _ => ∃ (G : Hp) (M : List (Addr × HO)) (D : Addr) (c c' : Cp) (f : Fs) (tk : List (Str × Int)) (hd : List (Str × Int × Int)), vs = [.ref D] ∧ Sep G ((D, .dK (f.k c')) :: M) H ∧ Dp K G f.tk (.tuple (tk.map d2)) ∧ Dp K G f.he (.tuple (hd.map d3)) ∧ tk.length ≤ 100 ∧ hd.length ≤ 100 ∧
  ∀ (v : V) (G' H' : Hp), Same G G' → Dp K G' v (strsD (tk.map (·.1) ++ hd.map (·.1))) → Sep G' ((D, .dK (f.k c')) :: M) H' → Q v H'
theorem ok_full_looks (T : Top K mg w) {k : Nat} : FnOk P w K mg base CX0 (k + 1) T.a_full_looks T.d_full_looks ["_law_told"] (spFull K) := by
  refine T.F_full_looks.ok sc_full_looks (fun vs H Q E h => ?_) (fun cdv A outer s H vs Q E hr h => ?_)
  · obtain ⟨G, M, D, c, c', f, tk, hd, rfl, _⟩ := h
    rfl
  · obtain ⟨G, M, D, c, c', f, tk, hd, rfl, S, h1, h2, l1, l2, q⟩ := h
    obtain ⟨p1, x1, e1, hp1, hx1⟩ := dp_tup h1
    obtain ⟨p2, x2, e2, hp2, hx2⟩ := dp_tup h2
    have g1 : DGet H D (.str "takes") (some (V.ref p1)) := by rw [← e1]; exact Fs.dg_takes S.hd
    have g2 : DGet H D (.str "hears") (some (V.ref p2)) := by rw [← e2]; exact Fs.dg_hears S.hd
    refine ⟨_, (pss_one (ps_ret (pe_callTy (call_tupleK K) (by rfl) T.m_tuple (by decide +kernel) (pa_cons (pe_lc (own := [("_law_row_here", 1)]) (by rfl) sc_full_looks.nd (pi_tupK K (pe_op (op_catAK K) (pe_dget (hu_of hr) (xv 0) pe_str (fun _ _ => rfl)) (pe_dget (hu_of hr) (xv 0) pe_str (fun _ _ => rfl)))) (blkOk_by (N := ["_law_told", "_law_row_here"]) (sc := defScope s_full_looks) (by decide +kernel)) (fun _ _ _ _ _ => (pg_name (i := 1) sc_full_looks.nd rfl (.inl rfl))) (fun _ _ _ _ _ => pts_nil) (fun _ _ _ _ _ => (pe_ix (ix_k K) (xv 1) pe_int (fun _ _ => rfl)))) pa_nil)))), ?_⟩
    have key : ∀ (p : Addr) (G1 H1 : Hp), Same G G1 → Sep G1 ((D, .dK (f.k c')) :: M) H1 → SqT K G1 p (x1 ++ x2) → tRet (tCB (yTup K) (tCons (tLc (iTup K (fun σ H Q => Q (.ref p) H)) (gName 1) tYes (tOp (yIx K) (xVar 1) (tC (V.int 0))) (List.map (fun x => x.2) [(Str.ofString "_law_row_here", 1)])) tNil)) { nx := fun _ H' => Q .non H', rt := Q } (L2.start [Str.ofString "_law_told", Str.ofString "_law_row_here"] [V.ref D]) H1 := fun p G1 H1 s1 S1 hp => by
      have hx12 : DpAll K G1 (x1 ++ x2) (tk.map d2 ++ hd.map d3) := dpa_app (dpa_same s1 hx1) (dpa_same s1 hx2)
      refine ⟨p, rfl, ⟨_, S1.t hp⟩, fun D2 n2 => lc_dpT S1 n2 hp hx12 ((tk.map (·.1) ++ hd.map (·.1)).map PyData.str) (by simp) (by rw [List.length_append, List.length_map, List.length_map]; omega) (fun i y e d G2 H2 us R he hd1 hxe s2 S2 hR => ?_) (fun G2 H2 us s2 S2 hw => ?_)⟩
      · have ez : ∃ z r, e = .tuple (.str z :: r) ∧ d = .str z := by
          rw [List.map_append, List.map_map, List.map_map] at hd1
          by_cases hi : i < tk.length
          · rw [List.getElem?_append_left (by rw [List.length_map]; exact hi), List.getElem?_map] at he hd1
            obtain ⟨r, hr1, rfl⟩ := Option.map_eq_some_iff.mp he
            rw [hr1] at hd1
            cases hd1
            exact ⟨_, _, rfl, rfl⟩
          · rw [List.getElem?_append_right (by rw [List.length_map]; omega), List.length_map, List.getElem?_map] at he hd1
            obtain ⟨r, hr1, rfl⟩ := Option.map_eq_some_iff.mp he
            rw [hr1] at hd1
            cases hd1
            exact ⟨_, _, rfl, rfl⟩
        obtain ⟨z, es, rfl, rfl⟩ := ez
        obtain ⟨a, ys, rfl, ha, hy⟩ := dp_tup hxe
        obtain ⟨z1, r1, rfl, hz1, hy⟩ := dpa_cons hy
        exact ⟨rfl, _, _, .inr (S2.t ha), at0, hR _ G2 _ (Same.refl _) S2 hz1⟩
      · obtain rfl := dpa_strs hw
        refine ⟨D2, _, rfl, .inl ⟨SqL.of S2.hd, fun t3 n3 => ?_⟩⟩
        obtain ⟨G3, s3, S3, d3⟩ := dp_mk (K := K) S2 n3 (dpa_of_strs (tk.map (·.1) ++ hd.map (·.1)))
        exact q _ G3 _ (s1.trans (s2.trans s3)) d3 S3.drop
    refine ⟨D, _, rfl, g1, D, _, rfl, g2, p1, p2, x1, x2, rfl, rfl, S.t hp1, S.t hp2, ?_, fun e => ?_, fun _ e => ?_, fun _ _ p np => ?_⟩
    · have l1' := dpa_len hx1
      have l2' := dpa_len hx2
      rw [List.length_map] at l1' l2'
      exact small (by omega)
    · exact key p2 G H (Same.refl _) S (by rw [e]; exact hp2)
    · exact key p1 G H (Same.refl _) S (by rw [e, List.append_nil]; exact hp1)
    · obtain ⟨G3, s3, S3, h3⟩ := Sep.mk (o := .tup (x1 ++ x2)) S np
      exact key p G3 _ s3 S3 (SqT.of h3)
theorem btns_eq {c : Cp} (gc : GdC c) (c16 : cnt c.shape ≤ 16) : (numb c.shape).filterMap btnD = ((numb c.shape).filterMap btnS).map PyData.str := by
  have bw : ∀ l : List Sh, (∀ s ∈ l, ∀ w, s = .button w → NmD w) → l.filterMap btnD = (l.filterMap btnS).map PyData.str := by
    intro l
    induction l with
    | nil => intro _; rfl
    | cons s r ih =>
      intro hb
      have ih := ih fun s hs => hb s (List.mem_cons_of_mem _ hs)
      cases s with
      | button w0 =>
        obtain ⟨z, rfl, _⟩ := hb _ List.mem_cons_self w0 rfl
        simp only [List.filterMap_cons, btnD, btnS, List.map_cons, ih]
      | _ => simp only [List.filterMap_cons, btnD, btnS, ih]
  have gs : SG c.names c.shape := by
    rcases gc.s1 with h | ⟨col, ps, e, big⟩
    · exact h
    · rw [e] at c16
      have := many_le ps
      have := cnt_eq (.line col ps)
      have : cnt (.line col ps) = (numbs ps).length + 1 := this
      omega
  exact bw _ fun s hs w0 e => by
    have := gs s hs
    rw [e] at this
    exact this
def spLWords (K : PySem.W.Frag) : Sp := fun vs H Q _ => ∃ (G : Hp) (M : List (Addr × HO)) (D : Addr) (c : Cp), vs = [.ref D] ∧ Sep G M H ∧ PlAt K G D c ∧ GdC c ∧ cnt c.shape ≤ 16 ∧ ∀ (l : Addr) (G' H' : Hp), Same G G' → Sep G' M H' → G' l = some (.lst ((wordsC c).map V.str)) → Q (.ref l) H'
theorem ok_words (T : Top K mg w) {k : Nat} (G_law_numbered : FnOk P w K mg base CX0 k T.a_law_numbered T.d_law_numbered ["_law_shape"] (spLNumb K 5)) : FnOk P w K mg base CX0 (k + 1) T.a_words T.d_words ["_law_told"] (spLWords K) := by
  refine T.F_words.ok sc_words (fun vs H Q E h => ?_) (fun cdv A outer s H vs Q E hr h => ?_)
  · obtain ⟨G, M, D, c, rfl, _⟩ := h
    rfl
  · obtain ⟨G, M, D, c, rfl, S, hD, gc, c16, q⟩ := h
    obtain ⟨f, h1, fa⟩ := hD.ex
    refine ⟨_, (pss_cons (ps_setLc (i := 1) (own := [("_law_shape", 2)]) (by rfl) sc_words.nd rfl rfl (sw_true rfl rfl rfl (by decide +kernel)) (pi_listK K (pe_call G_law_numbered (hr.mono (by omega)) (by rfl) T.g_law_numbered T.F_law_numbered.kp T.b_law_numbered .nil pass0 (pa_cons (pe_dget (hu_of hr) (xv 0) pe_str (fun _ _ => rfl)) pa_nil))) (blkOk_by (N := ["_law_told", "_law_pressed", "_law_shape", "_law_deed"]) (sc := defScope s_words) (by decide +kernel)) (fun _ _ _ _ _ => (pg_name (i := 2) sc_words.nd rfl (.inl rfl))) (fun _ _ _ _ _ => (pts_one (xt_cmp (op_eqLK K hr.u190) (pe_ix (ix_k K) (xv 2) pe_int (fun _ _ => rfl)) pe_str (nomark _)))) (fun _ _ _ _ _ => (pe_ix (ix_k K) (xv 2) pe_int (fun _ _ => rfl))))
      (pss_one (ps_ret (pe_op op_addY (pe_lc (own := [("_law_deed", 3)]) (by rfl) sc_words.nd (pi_tupK K (pe_dget (hu_of hr) (xv 0) pe_str (fun _ _ => rfl))) (blkOk_by (N := ["_law_told", "_law_pressed", "_law_shape", "_law_deed"]) (sc := defScope s_words) (by decide +kernel)) (fun _ _ _ _ _ => (pg_name (i := 3) sc_words.nd rfl (.inl rfl))) (fun _ _ _ _ _ => pts_nil) (fun _ _ _ _ _ => (pe_ix (ix_k K) (xv 3) pe_int (fun _ _ => rfl)))) (xv 1))))), ?_⟩
    refine ⟨D, _, rfl, Fs.dg_shape (S.st h1), G, M, f.sh, c.shape, rfl, S, fa.sh, gc.sh, by omega, fun l2 us2 G2 H2 s2 hl2 hus2 S2 => ?_⟩
    have l8 := dpa_len hus2
    rw [List.length_map] at l8
    have l8 : us2.length = cnt c.shape := l8
    have n7 := gc.d2.1
    obtain ⟨p7, x7, e7, hp7, hx7⟩ := dp_tup fa.de
    refine ⟨l2, rfl, ⟨_, S2.l (SqL.of hl2)⟩, fun D3 n3 => lc_dpX (K := K) (walk_list (xs := us2)) S2 n3 (fun i => ((numb c.shape).take i).filterMap btnD) rfl (by omega) (fun G' H' us s' S' => S'.l (same_l s' (SqL.of hl2))) (fun i y G' H' H2 us R F hi s' S' yy hR hF => ?_) (fun G4 H4 us s4 S4 hw => ?_)⟩
    · obtain ⟨rfl, hy⟩ := yy
      obtain ⟨dd, hdd, hud⟩ := dpa_get hus2 hy
      obtain ⟨sh, hsh, rfl⟩ := map_get hdd
      have tk : ((numb c.shape).take (i + 1)).filterMap btnD = ((numb c.shape).take i).filterMap btnD ++ [sh].filterMap btnD := by rw [XL.take_snoc hsh, List.filterMap_append]
      obtain ⟨a, rest, rfl, ha, hr'⟩ := shp_at (dp_same s' hud)
      refine ⟨rfl, _, _, .inr (S'.t ha), at0, tst (fun e => ?_) (fun e => ?_)⟩
      · obtain ⟨w0, rfl⟩ := word_button (of_decide_eq_true e)
        obtain ⟨x1, r1, rfl, d1, e1⟩ := dpa_cons hr'
        exact ⟨_, _, .inr (S'.t ha), atI_nat (j := 1) rfl, hR _ w0 G' _ (by rw [tk]; rfl) (Same.refl _) S' d1⟩
      · refine hF ?_ G' _ (Same.refl _) S'
        rw [tk]
        cases sh with
        | button w0 => exact we (a := "button") e
        | _ => exact List.append_nil _
    have e8 : (numb c.shape).take us2.length = numb c.shape := List.take_of_length_le (by rw [l8]; exact Nat.le_refl _)
    rw [e8, btns_eq gc c16] at hw
    obtain rfl := dpa_strs hw
    have bl : ((numb c.shape).filterMap btnS).length ≤ 16 := Nat.le_trans (List.length_filterMap_le _ _) c16
    obtain ⟨G5, s5, S5, h5⟩ := Sep.keep S4
    have t5 := s2.trans (s4.trans s5)
    have g7 : DGet H4 D (.str "deeds") (some (V.ref p7)) := by rw [← e7]; exact Fs.dg_deeds (S5.st (t5 _ _ h1))
    refine ⟨D, _, rfl, g7, p7, rfl, ⟨_, S5.t (same_t t5 hp7)⟩, fun D6 n6 => lc_names S5 n6 (same_t t5 hp7) (dpa_same t5 hx7) (fun r => ⟨_, rfl⟩) (by omega) (fun G6 H6 s6 S6 => ?_)⟩
    refine ⟨D6, D3, _, _, rfl, rfl, S6.hd, S6.st (s6 _ _ h5), ?_, fun l7 n7' => ?_⟩
    · rw [List.length_map, List.length_map, List.length_map]
      exact small (by omega)
    · rw [← List.map_append]
      obtain ⟨G7, s7, S7, h7⟩ := Sep.mk (o := .lst ((wordsC c).map V.str)) S6 n7'
      exact q l7 G7 _ (t5.trans (s6.trans s7)) S7.drop h7

end
end K57
set_option Elab.async false
set_option linter.all false
set_option maxRecDepth 100000
set_option maxHeartbeats 4000000
namespace K57
open PySem PySem.Spec PyProof.Rows L2 XL
section
variable {P : Program} {w : World} {K : PySem.W.Frag} {mg : Str → Option Value} {base : Heap}
/-! ### the law's stub -/
def spLStub (K : PySem.W.Frag) : Sp := fun vs H Q _ => ∃ (G : Hp) (M : List (Addr × HO)) (D1 D2 : Addr) (c ch : Cp), vs = [.ref D1, .ref D2] ∧ Sep G M H ∧ PlAt K G D1 c ∧ PlAt K G D2 ch ∧ GdC c ∧ GdC ch ∧ cnt c.shape ≤ 16 ∧
  ∀ (D : Addr) (G' H' : Hp), Same G G' → PlAt K G' D (stubC c ch) → Sep G' M H' → Q (.ref D) H'
theorem ok_law_stub (T : Top K mg w) {k : Nat} (G_blank : FnOk P w K mg base CX0 k T.a_blank T.d_blank ["_law_called"] (spBlank K)) (G_spares : FnOk P w K mg base CX0 k T.a_spares T.d_spares ["_law_barred"] (spLSp K)) (G_words : FnOk P w K mg base CX0 k T.a_words T.d_words ["_law_told"] (spLWords K)) (G_full_looks : FnOk P w K mg base CX0 k T.a_full_looks T.d_full_looks ["_law_told"] (spFull K)) :
    FnOk P w K mg base CX0 (k + 1) T.a_law_stub T.d_law_stub ["_law_told", "_law_child_here"] (spLStub K) := by
  refine T.F_law_stub.ok sc_law_stub (fun vs H Q E h => ?_) (fun cdv A outer s H vs Q E hr h => ?_)
  · obtain ⟨G, M, D1, D2, c, ch, rfl, _⟩ := h
    rfl
  · obtain ⟨G, M, D1, D2, c, ch, rfl, S, hc, hh, gc, gh, c16, q⟩ := h
    have F := stf gc gh c16
    refine ⟨_, (pss_cons (ps_set (i := 2) sc_law_stub.nd rfl (.inl rfl) (pe_call G_blank (hr.mono (by omega)) (by rfl) T.g_blank T.F_blank.kp T.b_blank .nil pass0 (pa_cons (pe_dget (hu_of hr) (xv 1) pe_str (fun _ _ => rfl)) pa_nil)))
      (xss_cut (ps_set (i := 3) sc_law_stub.nd rfl (.inr rfl) (pe_call G_spares (hr.mono (by omega)) (by rfl) T.g_spares T.F_spares.kp T.b_spares .nil pass0 (pa_cons (pe_lc (own := [("_law_row_here", 10)]) (by rfl) sc_law_stub.nd (pi_tupK K (pe_dget (hu_of hr) (xv 0) pe_str (fun _ _ => rfl))) (blkOk_by (N := ["_law_told", "_law_child_here", "_law_out", "_law_spare", "_law_taken", "_law_heard", "_law_cell", "_law_own", "_law_parts_here", "_law_at", "_law_row_here", "_law_deed"]) (sc := defScope s_law_stub) (by decide +kernel)) (fun _ _ _ _ _ => (pg_name (i := 10) sc_law_stub.nd rfl (.inl rfl))) (fun _ _ _ _ _ => pts_nil) (fun _ _ _ _ _ => (pe_ix (ix_k K) (xv 10) pe_int (fun _ _ => rfl)))) pa_nil)))
      (xss_cut (ps_setLc (i := 4) (own := [("_law_at", 9), ("_law_row_here", 10)]) (by rfl) sc_law_stub.nd rfl rfl (sw_true rfl rfl rfl (by decide +kernel)) (pi_enumT (by rfl) T.m_enumerate (pa_cons (pe_dget (hu_of hr) (xv 1) pe_str (fun _ _ => rfl)) pa_nil)) (blkOk_by (N := ["_law_told", "_law_child_here", "_law_out", "_law_spare", "_law_taken", "_law_heard", "_law_cell", "_law_own", "_law_parts_here", "_law_at", "_law_row_here", "_law_deed"]) (sc := defScope s_law_stub) (by decide +kernel)) (fun _ _ _ _ _ => (pg_tupK K 2 (pgs_cons (pg_name (i := 9) sc_law_stub.nd rfl (.inl rfl)) (pgs_cons (pg_name (i := 10) sc_law_stub.nd rfl (.inl rfl)) pgs_nil)))) (fun _ _ _ _ _ => pts_nil) (fun _ _ _ _ _ => (pe_tup (pa_cons (pe_ix (ix_k K) (xv 3) (xv 9) (fun _ _ => rfl)) (pa_cons (pe_ix (ix_k K) (xv 10) pe_int (fun _ _ => rfl)) pa_nil)))))
      (xss_cut (ps_setLc (i := 5) (own := [("_law_row_here", 10)]) (by rfl) sc_law_stub.nd rfl rfl (sw_true rfl rfl rfl (by decide +kernel)) (pi_tupK K (pe_dget (hu_of hr) (xv 0) pe_str (fun _ _ => rfl))) (blkOk_by (N := ["_law_told", "_law_child_here", "_law_out", "_law_spare", "_law_taken", "_law_heard", "_law_cell", "_law_own", "_law_parts_here", "_law_at", "_law_row_here", "_law_deed"]) (sc := defScope s_law_stub) (by decide +kernel)) (fun _ _ _ _ _ => (pg_name (i := 10) sc_law_stub.nd rfl (.inl rfl))) (fun _ _ _ _ _ => pts_nil) (fun _ _ _ _ _ => (pe_tup (pa_cons (pe_ix (ix_k K) (xv 10) pe_int (fun _ _ => rfl)) (pa_cons (pe_ix (ix_k K) (xv 10) pe_int (fun _ _ => rfl)) (pa_cons pe_int pa_nil))))))
      (pss_cons (ps_set (i := 6) sc_law_stub.nd rfl (.inl rfl) (pe_ix (ix_k K) (xv 3) (pe_callB (cr_lenK K) (by rfl) T.m_len (by decide +kernel) (pa_cons (xv 4) pa_nil)) (fun _ _ => rfl)))
      (pss_cons (ps_set (i := 7) sc_law_stub.nd rfl (.inl rfl) (pe_ix (ix_k K) (pe_call G_spares (hr.mono (by omega)) (by rfl) T.g_spares T.F_spares.kp T.b_spares .nil pass0 (pa_cons (pe_call G_words (hr.mono (by omega)) (by rfl) T.g_words T.F_words.kp T.b_words .nil pass0 (pa_cons (xv 0) pa_nil)) pa_nil)) pe_int (fun _ _ => rfl)))
      (xss_cut (ps_set (i := 8) sc_law_stub.nd rfl (.inl rfl) (pe_op op_addY (pe_lc (own := [("_law_row_here", 10)]) (by rfl) sc_law_stub.nd (pi_listK K (pe_op op_addY (xv 4) (xv 5))) (blkOk_by (N := ["_law_told", "_law_child_here", "_law_out", "_law_spare", "_law_taken", "_law_heard", "_law_cell", "_law_own", "_law_parts_here", "_law_at", "_law_row_here", "_law_deed"]) (sc := defScope s_law_stub) (by decide +kernel)) (fun _ _ _ _ _ => (pg_name (i := 10) sc_law_stub.nd rfl (.inl rfl))) (fun _ _ _ _ _ => pts_nil) (fun _ _ _ _ _ => (pe_tup (pa_cons pe_str (pa_cons (pe_tup (pa_cons pe_str (pa_cons (pe_ix (ix_k K) (xv 10) pe_int (fun _ _ => rfl)) pa_nil))) pa_nil))))) (pe_lst (pa_cons (pe_tup (pa_cons pe_str (pa_cons (pe_tup (pa_cons pe_str (pa_cons (xv 6) pa_nil))) pa_nil))) (pa_cons (pe_tup (pa_cons pe_str (pa_cons (xv 7) pa_nil))) pa_nil)))))
      (pss_cons (ps_dput (hu_of hr) (xv 2) pe_str (pe_callTy (call_tupleK K) (by rfl) T.m_tuple (by decide +kernel) (pa_cons (xv 4) pa_nil)) rfl)
      (pss_cons (ps_dput (hu_of hr) (xv 2) pe_str (pe_callTy (call_tupleK K) (by rfl) T.m_tuple (by decide +kernel) (pa_cons (xv 5) pa_nil)) rfl)
      (pss_cons (ps_dput (hu_of hr) (xv 2) pe_str (pe_tup (pa_cons (pe_tup (pa_cons (xv 6) (pa_cons pe_int (pa_cons pe_int pa_nil)))) pa_nil)) rfl)
      (pss_cons (ps_dput (hu_of hr) (xv 2) pe_str (pe_tup (pa_cons (pe_tup (pa_cons (xv 7) (pa_cons (pe_tup (pa_cons (pe_tup (pa_cons (xv 6) (pa_cons (pe_tup (pa_cons pe_str (pa_cons (pe_tup (pa_cons pe_str (pa_cons (xv 6) pa_nil))) (pa_cons (pe_tup (pa_cons pe_str (pa_cons pe_int pa_nil))) pa_nil)))) pa_nil))) pa_nil)) (pa_cons pe_bl pa_nil)))) pa_nil)) rfl)
      (pss_cons (ps_dput (hu_of hr) (xv 2) pe_str (pe_call G_full_looks (hr.mono (by omega)) (by rfl) T.g_full_looks T.F_full_looks.kp T.b_full_looks .nil pass0 (pa_cons (xv 2) pa_nil)) rfl)
      (pss_cons (ps_dput (hu_of hr) (xv 2) pe_str (pe_tup (pa_cons pe_str (pa_cons (pe_callTy (call_tupleK K) (by rfl) T.m_tuple (by decide +kernel) (pa_cons (pe_op op_addY (xv 8) (pe_lc (own := [("_law_deed", 11)]) (by rfl) sc_law_stub.nd (pi_tupK K (pe_dget (hu_of hr) (xv 0) pe_str (fun _ _ => rfl))) (blkOk_by (N := ["_law_told", "_law_child_here", "_law_out", "_law_spare", "_law_taken", "_law_heard", "_law_cell", "_law_own", "_law_parts_here", "_law_at", "_law_row_here", "_law_deed"]) (sc := defScope s_law_stub) (by decide +kernel)) (fun _ _ _ _ _ => (pg_name (i := 11) sc_law_stub.nd rfl (.inl rfl))) (fun _ _ _ _ _ => pts_nil) (fun _ _ _ _ _ => (pe_tup (pa_cons pe_str (pa_cons (pe_ix (ix_k K) (xv 11) pe_int (fun _ _ => rfl)) pa_nil)))))) pa_nil)) pa_nil))) rfl)
      (pss_one (ps_ret (xv 2)))))))))))))))), ?_⟩
    obtain ⟨f, h1, fa⟩ := hc.ex
    obtain ⟨g, k1, ga⟩ := hh.ex
    obtain ⟨p5, x5, e5, hp5, hx5⟩ := dp_tup fa.gi
    obtain ⟨p7, x7, e7, hp7, hx7⟩ := dp_tup fa.de
    obtain ⟨q1, y1, f1, hq1, hy1⟩ := dp_tup ga.tk
    have n5 := gc.g2.1
    have n7 := gc.d2.1
    have n1 := gh.t2.1
    have hl5 : (stHd c).length ≤ 2 := by unfold stHd; rw [List.length_map]; exact n5
    have yl := dpa_len hy1
    rw [List.length_map] at yl
    -- out = blank(child["name"])
    refine ⟨D2, _, rfl, Fs.dg_name (S.st k1), G, M, ch.name, rfl, S, fun D o G1 H1 s1 oa S1 => ?_⟩
    -- spare
    have g5 : DGet H1 D1 (.str "gives") (some (V.ref p5)) := by rw [← e5]; exact Fs.dg_gives (S1.st (s1 _ _ h1))
    refine ⟨fun σ H' => ∃ (l : Addr) (G' : Hp), σ = [some (.ref D1), some (.ref D2), some (.ref D), some (.ref l), none, none, none, none, none, none, none, none] ∧ Same G1 G' ∧ Sep G' ((D, .dK (o.k (blankC ch.name))) :: M) H' ∧ G' l = some (.lst ((spAll (c.gives.map (·.1))).map V.str)), ?_, fun σ H2 h => ?_⟩
    · refine ⟨D1, _, rfl, g5, p5, rfl, ⟨_, S1.t (same_t s1 hp5)⟩, fun D3 n3 => lc_names S1 n3 (same_t s1 hp5) (dpa_same s1 hx5) (fun r => ⟨_, rfl⟩) (by omega) (fun G2 H2 s2 S2 => ?_)⟩
      obtain ⟨G3, s3, S3, h3⟩ := Sep.keep S2
      exact ⟨G3, _, D3, c.gives.map (·.1), rfl, S3, SqL.of h3, fun l G4 H4 s4 S4 hl => ⟨l, G4, rfl, s2.trans (s3.trans s4), S4, hl⟩⟩
    obtain ⟨l, G2, rfl, s2, S2, hl⟩ := h
    have t2 := s1.trans s2
    have gt : ∀ {G' H' : Hp} {M' : List (Addr × HO)}, Same G G' → Sep G' M' H' → DGet H' D2 (.str "takes") (some (V.ref q1)) := fun s' S' => by rw [← f1]; exact Fs.dg_takes (S'.st (s' _ _ k1))
    have gg : ∀ {G' H' : Hp} {M' : List (Addr × HO)}, Same G G' → Sep G' M' H' → DGet H' D1 (.str "gives") (some (V.ref p5)) := fun s' S' => by rw [← e5]; exact Fs.dg_gives (S'.st (s' _ _ h1))
    have gd : ∀ {G' H' : Hp} {M' : List (Addr × HO)}, Same G G' → Sep G' M' H' → DGet H' D1 (.str "deeds") (some (V.ref p7)) := fun s' S' => by rw [← e7]; exact Fs.dg_deeds (S'.st (s' _ _ h1))
    have spl : ∀ {i : Nat} {z : Str}, (stSp c ch)[i]? = some z → (spAll (c.gives.map (·.1)))[i]? = some z := fun {i z} h => by
      have il := (List.getElem?_eq_some_iff.mp h).1
      rw [F.len] at il
      unfold stSp spN at h
      rw [List.getElem?_take, if_pos il] at h
      exact h
    -- taken
    refine ⟨fun σ H' => ∃ (D4 : Addr) (tv : List V) (G' : Hp), σ = [some (.ref D1), some (.ref D2), some (.ref D), some (.ref l), some (.ref D4), none, none, none, none, none, none, none] ∧ Same G2 G' ∧ Sep G' ((D, .dK (o.k (blankC ch.name))) :: M) H' ∧ G' D4 = some (.lst tv) ∧ DpAll K G' tv ((stTk c ch).map d2), ?_, fun σ H3 h => ?_⟩
    · refine ⟨D2, _, rfl, gt t2 S2, q1, y1, rfl, S2.t (same_t t2 hq1), fun D4 nD4 => lc_dp (K := K) (walk_enumT (K := K) (xs := y1)) S2 nD4 ((stTk c ch).map d2) ?_ (by omega) (fun G' H' ws s' S' => S'.t (same_t (t2.trans s') hq1)) (fun i y d G' H' H2 ws R hi hd s' S' yy hR => ?_) (fun G3 H3 ws s3 S3 hw => ?_)⟩
      · have := congrArg List.length F.tk
        rw [List.length_map, List.length_take, F.len] at this
        rw [List.length_map, this, yl]
        omega
      · obtain ⟨T2, a1, a2, rfl, nT2, rfl, ha1, ha2⟩ := yy
        cases ha1
        obtain ⟨dd, hdd, hud⟩ := dpa_get hy1 ha2
        rw [List.getElem?_map] at hdd hd
        obtain ⟨r, hr1, rfl⟩ := Option.map_eq_some_iff.mp hdd
        have hil : i < (stSp c ch).length := by rw [F.len]; omega
        have hsp : (stSp c ch)[i]? = some (stSp c ch)[i] := List.getElem?_eq_getElem hil
        have htk : (stTk c ch)[i]? = some ((stSp c ch)[i], r.2) := by
          unfold stTk
          refine List.getElem?_zip_eq_some.mpr ⟨?_, by rw [List.getElem?_map, hr1]; rfl⟩
          rw [List.getElem?_take]
          rw [if_pos (by omega)]
          exact hsp
        rw [htk] at hd
        cases hd
        obtain ⟨a, ys, rfl, ha, hy⟩ := dp_tup (dp_same (t2.trans s') hud)
        obtain ⟨z1, r1, rfl, hz1, hy⟩ := dpa_cons hy
        obtain ⟨z2, r2, rfl, hz2, hy⟩ := dpa_cons hy
        obtain rfl := dpa_nil hy
        have S19 := S'.newG (o := .tup [.int (i : Nat), .ref a]) nT2
        have s19 := S'.grow (o := .tup [.int (i : Nat), .ref a]) nT2
        refine ⟨T2, _, rfl, SqT.of upd_same, rfl, _, _, rfl, _, _, rfl, rfl, rfl, _, _, .inl (SqL.of (S19.st (s19 _ _ (s' _ _ hl)))), atI_nat (by rw [List.getElem?_map, spl hsp]; rfl), _, _, .inr (S19.t (same_t s19 ha)), atI_nat (j := 1) rfl, sz, fun t nt => ?_⟩
        obtain ⟨G3, s3, S3, h3⟩ := dp_mk (K := K) S19 nt (.cons (.str _) (.cons (dp_same s19 hz2) .nil))
        exact hR _ G3 _ (s19.trans s3) S3 h3
      · obtain ⟨G4, s4, S4, h4⟩ := Sep.keep S3
        exact ⟨D4, ws, G4, rfl, s3.trans s4, S4, h4, dpa_same s4 hw⟩
    obtain ⟨D4, tv, G3, rfl, s3, S3, hD4, htv⟩ := h
    have t3 := t2.trans s3
    -- heard
    refine ⟨fun σ H' => ∃ (D5 : Addr) (hv : List V) (G' : Hp), σ = [some (.ref D1), some (.ref D2), some (.ref D), some (.ref l), some (.ref D4), some (.ref D5), none, none, none, none, none, none] ∧ Same G3 G' ∧ Sep G' ((D, .dK (o.k (blankC ch.name))) :: M) H' ∧ G' D5 = some (.lst hv) ∧ DpAll K G' hv ((stHd c).map d3), ?_, fun σ H4 h => ?_⟩
    · refine ⟨D1, _, rfl, gg t3 S3, p5, rfl, ⟨_, S3.t (same_t t3 hp5)⟩, fun D5 nD => lc_dpT S3 nD (same_t t3 hp5) (dpa_same t3 hx5) ((stHd c).map d3) (by simp [stHd]) (by rw [List.length_map]; omega) (fun i y e d G2 H2 us R he hd hxe s2 S2 hR => ?_) (fun G2 H2 us s2 S2 hw => ?_)⟩
      · unfold stHd at hd
        rw [List.map_map, List.getElem?_map] at hd
        rw [List.getElem?_map] at he
        obtain ⟨r, hr1, rfl⟩ := Option.map_eq_some_iff.mp he
        rw [hr1] at hd
        cases hd
        obtain ⟨a, ys, rfl, ha, hy⟩ := dp_tup hxe
        obtain ⟨z1, r1, rfl, hz1, hy⟩ := dpa_cons hy
        obtain ⟨z2, r2, rfl, hz2, hy⟩ := dpa_cons hy
        refine ⟨rfl, _, _, .inr (S2.t ha), at0, _, _, .inr (S2.t ha), atI_nat (j := 1) rfl, sz, fun t nt => ?_⟩
        obtain ⟨G3, s3, S3, h3⟩ := dp_mk (K := K) S2 nt (.cons hz1 (.cons hz2 (.cons (.int 0) .nil)))
        exact hR _ G3 _ s3 S3 h3
      · obtain ⟨G3, s3, S3, h3⟩ := Sep.keep S2
        exact ⟨D5, us, G3, rfl, s2.trans s3, S3, h3, dpa_same s3 hw⟩
    obtain ⟨D5, hv, G4, rfl, s4, S4, hD5, hhv⟩ := h
    have t4 := t3.trans s4
    have l4 : tv.length = ch.takes.length := by
      have := dpa_len htv
      rw [List.length_map] at this
      have h2 := congrArg List.length F.tk
      rw [List.length_map, List.length_take, F.len] at h2
      omega
    have lv : hv.length ≤ 2 := by
      have := dpa_len hhv
      rw [List.length_map] at this
      omega
    have own0 : (spAll (wordsC c))[0]? = some (stOwn c) := by
      have h := F.own
      unfold spN at h
      rw [List.getElem?_take, if_pos (by decide)] at h
      exact h
    refine ⟨_, .inl (SqL.of (S4.st (s4 _ _ hD4))), _, _, .inl (SqL.of (S4.st (s4 _ _ (s3 _ _ hl)))), atI_nat (v := V.str (stCell c ch)) (j := tv.length) (show ((spAll (c.gives.map (·.1))).map V.str)[tv.length]? = _ by rw [List.getElem?_map, l4, spl F.cell]; rfl), ?_⟩
    refine ⟨G4, _, D1, c, rfl, S4, hc.same t4, gc, c16, fun lw G5 H5 s5 S5 hlw => ⟨G5, _, lw, wordsC c, rfl, S5, SqL.of hlw, fun l6 G6 H6 s6 S6 hl6 => ⟨_, _, .inl (SqL.of (S6.st hl6)), atI_nat (j := 0) (by rw [List.getElem?_map, own0]; rfl), ?_⟩⟩⟩
    have t46 := s5.trans s6
    have t6 := t4.trans t46
    have ds12 : DpAll K G6 (tv ++ hv) ((stTk c ch).map d2 ++ (stHd c).map d3) := dpa_app (dpa_same (s4.trans t46) htv) (dpa_same t46 hhv)
    -- parts
    refine ⟨fun σ H' => ∃ (D8 : Addr) (us : List V) (G' : Hp), σ = [some (.ref D1), some (.ref D2), some (.ref D), some (.ref l), some (.ref D4), some (.ref D5), some (.str (stCell c ch)), some (.str (stOwn c)), some (.ref D8), none, none, none] ∧ Same G6 G' ∧ Sep G' ((D, .dK (o.k (blankC ch.name))) :: M) H' ∧ G' D8 = some (.lst us) ∧
      DpAll K G' us ((((stTk c ch).map (·.1) ++ (stHd c).map (·.1)).map txS ++ [txS (stCell c ch), btS (stOwn c)]).map toD), ?_, fun σ H7 h => ?_⟩
    · refine ⟨D4, D5, tv, hv, rfl, rfl, S6.st (t46 _ _ (s4 _ _ hD4)), S6.st (t46 _ _ hD5), small (by omega), fun l5 n5 => ?_⟩
      obtain ⟨G7, s7, S7, h7⟩ := Sep.mk (o := .lst (tv ++ hv)) S6 n5
      have ml : ((stTk c ch).map d2 ++ (stHd c).map d3).length ≤ 100 := by
        have h2 := dpa_len ds12
        rw [List.length_append] at h2
        omega
      refine ⟨l5, rfl, ⟨_, S7.l (SqL.of h7)⟩, fun D8 nD8 => lc_dpL S7 nD8 (fun G' H' l s' S' => S'.l (same_l s' (SqL.of h7))) (dpa_same s7 ds12) ((((stTk c ch).map (·.1) ++ (stHd c).map (·.1)).map txS).map toD) (by simp) (by omega) (fun i y e d G2 H2 us R he hd hxe s2 S2 hR => ?_) (fun G8 H8 us s8 S8 hw => ?_)⟩
      · rw [List.map_map, List.getElem?_map] at hd
        obtain ⟨z, hz, rfl⟩ := Option.map_eq_some_iff.mp hd
        have ez : ∃ r, e = .tuple (.str z :: r) := by
          by_cases hi : i < (stTk c ch).length
          · rw [List.getElem?_append_left (by rw [List.length_map]; exact hi), List.getElem?_map] at he hz
            obtain ⟨r, hr1, rfl⟩ := Option.map_eq_some_iff.mp he
            rw [hr1] at hz
            cases hz
            exact ⟨_, rfl⟩
          · rw [List.getElem?_append_right (by rw [List.length_map]; omega), List.length_map, List.getElem?_map] at he hz
            obtain ⟨r, hr1, rfl⟩ := Option.map_eq_some_iff.mp he
            rw [hr1] at hz
            cases hz
            exact ⟨_, rfl⟩
        obtain ⟨es, rfl⟩ := ez
        obtain ⟨a, ys, rfl, ha, hy⟩ := dp_tup hxe
        obtain ⟨z1, r1, rfl, hz1, hy⟩ := dpa_cons hy
        obtain rfl := dp_str hz1
        refine ⟨rfl, _, _, .inr (S2.t ha), at0, sz, fun t nt => ⟨sz, fun t' nt' => ?_⟩⟩
        obtain ⟨G8, s8, S8, h8⟩ := dp_mk (K := K) (ds := [.str "get", .str z]) S2 nt (.cons (.str _) (.cons (.str _) .nil))
        obtain ⟨G9, s9, S9, h9⟩ := dp_mk (K := K) (ds := [.str "text", .tuple [.str "get", .str z]]) S8 nt' (.cons (.str _) (.cons h8 .nil))
        exact hR _ G9 _ (s8.trans s9) S9 h9
      · have ul := dpa_len hw
        simp only [List.length_map, List.length_append] at ul
        have ul : us.length ≤ 100 := by
          simp only [List.length_append, List.length_map] at ml
          omega
        refine ⟨sz, fun t1 m1 => ⟨sz, fun t2 m2 => ⟨sz, fun t3 m3 => ⟨sz, fun t4 m4 => ?_⟩⟩⟩⟩
        obtain ⟨G9, s9, S9, h9⟩ := dp_mk (K := K) (ds := [.str "get", .str (stCell c ch)]) S8 m1 (.cons (.str _) (.cons (.str _) .nil))
        obtain ⟨G10, s10, S10, h10⟩ := dp_mk (K := K) (ds := [.str "text", .tuple [.str "get", .str (stCell c ch)]]) S9 m2 (.cons (.str _) (.cons h9 .nil))
        obtain ⟨G11, s11, S11, h11⟩ := dp_mk (K := K) (ds := [.str "button", .str (stOwn c)]) S10 m3 (.cons (.str _) (.cons (.str _) .nil))
        obtain ⟨G12, s12, S12, h12⟩ := Sep.mk (o := .lst [.ref t2, .ref t3]) S11 m4
        refine ⟨D8, t4, us, [.ref t2, .ref t3], rfl, rfl, S12.hd, S12.st h12, small (by simp only [List.length_cons, List.length_nil]; omega), fun l9 n9 => ?_⟩
        obtain ⟨G13, s13, S13, h13⟩ := Sep.mk (o := .lst (us ++ [.ref t2, .ref t3])) S12 n9
        have S13 := Sep.drop S13
        have u11 := s12.trans s13
        have u8 := s9.trans (s10.trans (s11.trans u11))
        refine ⟨l9, us ++ [.ref t2, .ref t3], G13, rfl, s7.trans (s8.trans u8), S13, h13, ?_⟩
        rw [List.map_append]
        exact dpa_app (dpa_same u8 hw) (.cons (dp_same (s11.trans u11) h10) (.cons (dp_same u11 h11) .nil))
    obtain ⟨D8, us, G7, rfl, s7, S7, hD8, hus⟩ := h
    have t47 := t46.trans s7
    have tt7 := t4.trans t47
    have ul : us.length ≤ 20 := by
      have h1 := dpa_len hus
      have h2 := dpa_len htv
      simp only [List.length_map, List.length_append, List.length_cons, List.length_nil] at h1 h2
      omega
    clear S S1 S2 S3 S4 S5 S6
    have lk : ∀ (o : Fs), (o.k (blankC ch.name)).length < sizeLine := fun o => smallL (by rw [Fs.k_len]; decide)
    -- takes, hears
    refine ⟨D4, tv, rfl, .inl ⟨SqL.of (S7.st (t47 _ _ (s4 _ _ hD4))), fun t1 m1 => ?_⟩⟩
    obtain ⟨G8, s8, S8, d8⟩ := dp_mk (K := K) S7 m1 (dpa_same (s4.trans t47) htv)
    refine ⟨D, _, rfl, DPut.k (k := Sum.inr "takes") S8.hd (lk _), ?_⟩
    rw [Fs.pk_takes]
    have S8 := S8.set (o' := .dK (({ o with tk := .ref t1 } : Fs).k (blankC ch.name)))
    refine ⟨D5, hv, rfl, .inl ⟨SqL.of (S8.st (s8 _ _ (t47 _ _ hD5))), fun t2 m2 => ?_⟩⟩
    obtain ⟨G9, s9, S9, d9⟩ := dp_mk (K := K) S8 m2 (dpa_same (t47.trans s8) hhv)
    refine ⟨D, _, rfl, DPut.k (k := Sum.inr "hears") S9.hd (lk _), ?_⟩
    rw [Fs.pk_hears]
    have S9 := S9.set (o' := .dK (({ o with tk := .ref t1, he := .ref t2 } : Fs).k (blankC ch.name)))
    -- cells
    refine ⟨sz, fun t3 m3 => ⟨sz, fun t4 m4 => ?_⟩⟩
    obtain ⟨G10, s10, S10, d10⟩ := dp_mk (K := K) (ds := [.str (stCell c ch), .int 2, .int 0]) S9 m3 (.cons (.str _) (.cons (.int _) (.cons (.int _) .nil)))
    obtain ⟨G11, s11, S11, d11⟩ := dp_mk (K := K) S10 m4 (.cons d10 .nil)
    refine ⟨D, _, rfl, DPut.k (k := Sum.inr "cells") S11.hd (lk _), ?_⟩
    rw [Fs.pk_cells]
    have S11 := S11.set (o' := .dK (({ o with tk := .ref t1, he := .ref t2, ce := .ref t4 } : Fs).k (blankC ch.name)))
    -- deeds
    refine ⟨sz, fun t5 m5 => ⟨sz, fun t6 m6 => ⟨sz, fun t7 m7 => ⟨sz, fun t8 m8 => ⟨sz, fun t9 m9 => ⟨sz, fun t10 m10 => ⟨sz, fun t11 m11 => ?_⟩⟩⟩⟩⟩⟩⟩
    obtain ⟨G12, s12, S12, d12⟩ := dp_mk (K := K) (ds := [.str "get", .str (stCell c ch)]) S11 m5 (.cons (.str _) (.cons (.str _) .nil))
    obtain ⟨G13, s13, S13, d13⟩ := dp_mk (K := K) (ds := [.str "is", .int 1]) S12 m6 (.cons (.str _) (.cons (.int _) .nil))
    obtain ⟨G14, s14, S14, d14⟩ := dp_mk (K := K) (ds := [.str "sum", (Gm.get (stCell c ch)).dat, (Gm.is 1).dat]) S13 m7 (.cons (.str _) (.cons (dp_same s13 d12) (.cons d13 .nil)))
    obtain ⟨G15, s15, S15, d15⟩ := dp_mk (K := K) S14 m8 (.cons (.str (stCell c ch)) (.cons d14 .nil))
    obtain ⟨G16, s16, S16, d16⟩ := dp_mk (K := K) S15 m9 (.cons d15 .nil)
    obtain ⟨G17, s17, S17, d17⟩ := dp_mk (K := K) S16 m10 (.cons (.str (stOwn c)) (.cons d16 (.cons (.bl false) .nil)))
    obtain ⟨G18, s18, S18, d18⟩ := dp_mk (K := K) S17 m11 (.cons d17 .nil)
    refine ⟨D, _, rfl, DPut.k (k := Sum.inr "deeds") S18.hd (lk _), ?_⟩
    rw [Fs.pk_deeds]
    have S18 := S18.set (o' := .dK (({ o with tk := .ref t1, he := .ref t2, ce := .ref t4, de := .ref t11 } : Fs).k (blankC ch.name)))
    have u1118 := s12.trans (s13.trans (s14.trans (s15.trans (s16.trans (s17.trans s18)))))
    have u918 := s10.trans (s11.trans u1118)
    have u818 := s9.trans u918
    have u718 := s8.trans u818
    -- looks
    refine ⟨G18, M, D, blankC ch.name, blankC ch.name, { o with tk := .ref t1, he := .ref t2, ce := .ref t4, de := .ref t11 }, stTk c ch, stHd c, rfl, S18, dp_same u818 d8, dp_same u918 d9, ?_, by omega, fun vl G19 H19 s19 d19 S19 => ⟨D, _, rfl, DPut.k (k := Sum.inr "looks") S19.hd (lk _), ?_⟩⟩
    · have h2 := dpa_len htv
      simp only [List.length_map] at h2
      omega
    rw [Fs.pk_looks]
    have S19 := S19.set (o' := .dK (({ o with tk := .ref t1, he := .ref t2, ce := .ref t4, de := .ref t11, lo := vl } : Fs).k (blankC ch.name)))
    have u719 := u718.trans s19
    have t19 := tt7.trans u719
    -- shape
    refine ⟨D1, _, rfl, gd t19 S19, p7, rfl, ⟨_, S19.t (same_t t19 hp7)⟩, fun D9 n9 => lc_dpT S19 n9 (same_t t19 hp7) (dpa_same t19 hx7) ((c.deeds.map fun r => btS r.1).map toD) (by simp) (by rw [List.length_map]; omega) (fun i y e d G2 H2 us R he hd hxe s2 S2 hR => ?_) (fun G20 H20 us9 s20 S20 hw => ?_)⟩
    · rw [List.map_map, List.getElem?_map] at hd
      rw [List.getElem?_map] at he
      obtain ⟨r, hr1, rfl⟩ := Option.map_eq_some_iff.mp he
      rw [hr1] at hd
      cases hd
      obtain ⟨a, ys, rfl, ha, hy⟩ := dp_tup hxe
      obtain ⟨z1, r1, rfl, hz1, hy⟩ := dpa_cons hy
      obtain rfl := dp_str hz1
      refine ⟨rfl, _, _, .inr (S2.t ha), at0, sz, fun t nt => ?_⟩
      obtain ⟨G3, s3, S3, h3⟩ := dp_mk (K := K) (ds := [.str "button", .str r.1]) S2 nt (.cons (.str _) (.cons (.str _) .nil))
      exact hR _ G3 _ s3 S3 h3
    have l9 := dpa_len hw
    simp only [List.length_map] at l9
    have u720 := u719.trans s20
    refine ⟨D8, D9, us, us9, rfl, rfl, S20.st (u720 _ _ hD8), S20.hd, small (by omega), fun l10 n10 => ?_⟩
    have S21 := S20.drop.new (o := .lst (us ++ us9)) n10
    refine ⟨l10, _, rfl, .inl ⟨SqL.of S21.hd, fun t12 m12 => ⟨sz, fun t13 m13 => ?_⟩⟩⟩
    have dall : DpAll K G20 (us ++ us9) ((stParts c ch).map toD) := by
      have e : (stParts c ch).map toD = (((stTk c ch).map (·.1) ++ (stHd c).map (·.1)).map txS ++ [txS (stCell c ch), btS (stOwn c)]).map toD ++ (c.deeds.map fun r => btS r.1).map toD := by
        unfold stParts
        simp
      rw [e]
      exact dpa_app (dpa_same u720 hus) hw
    obtain ⟨G22, s22, S22, d22⟩ := dp_mk (K := K) S21 m12 dall
    obtain ⟨G23, s23, S23, d23⟩ := dp_mk (K := K) S22 m13 (.cons (.str "col") (.cons d22 .nil))
    have S23 := Sep.drop S23
    refine ⟨D, _, rfl, DPut.k (k := Sum.inr "shape") S23.hd (lk _), ?_⟩
    rw [Fs.pk_shape]
    have S24 := S23.set (o' := .dK (({ o with sh := .ref t13, tk := .ref t1, he := .ref t2, ce := .ref t4, de := .ref t11, lo := vl } : Fs).k (blankC ch.name)))
    obtain ⟨G25, s25, S25, h25⟩ := Sep.keep S24
    have v23 := s25
    have v20 := s22.trans (s23.trans v23)
    have v19 := s20.trans v20
    have v18 := s19.trans v19
    have t125 : Same G1 G25 := s2.trans (s3.trans (s4.trans (t47.trans (u720.trans v20))))
    refine q D G25 _ (s1.trans t125) ⟨{ o with sh := .ref t13, tk := .ref t1, he := .ref t2, ce := .ref t4, de := .ref t11, lo := vl }, h25, ?_⟩ S25
    refine ⟨?_, dp_same (u818.trans v18) d8, dp_same (u918.trans v18) d9, dp_same (u1118.trans v18) d11, dp_same t125 oa.ak, dp_same t125 oa.gi, dp_same t125 oa.ef, dp_same v18 d18, dp_same v19 d19, dp_same t125 oa.il⟩
    show Dp K G25 (.ref t13) (toD (.line true (stParts c ch)))
    simp only [toD, toDs_eq]
    exact dp_same v23 d23

end
end K57
set_option Elab.async false
set_option linter.all false
set_option maxRecDepth 100000
set_option maxHeartbeats 4000000
namespace K57
open PySem PySem.Spec PyProof.Rows L2 XL
section
variable {P : Program} {w : World} {K : PySem.W.Frag} {mg : Str → Option Value} {base : Heap}
/-! ### _law_same -/
def FlatD (d : PyData) : Prop := (∃ z, d = .str z) ∨ (∃ i, d = .int i) ∨ (∃ b, d = .bool b) ∨ d = .none
def PlD : Nat → PyData → Prop
  | 0, d => FlatD d
  | n + 1, d => FlatD d ∨ ∃ ds, d = .tuple ds ∧ ds.length ≤ 1000 ∧ ∀ x ∈ ds, PlD n x
theorem PlD.up {n : Nat} {d : PyData} (h : PlD n d) : PlD (n + 1) d := by
  induction n generalizing d with
  | zero => exact .inl h
  | succ n ih =>
    rcases h with h | ⟨ds, e, l, h⟩
    · exact .inl h
    · exact .inr ⟨ds, e, l, fun x hx => ih (h x hx)⟩
theorem PlD.mono {n m : Nat} {d : PyData} (h : PlD n d) (l : n ≤ m) : PlD m d := by
  induction l with
  | refl => exact h
  | step _ ih => exact ih.up
theorem PlD.str (z : Str) : PlD 0 (.str z) := .inl ⟨z, rfl⟩
theorem PlD.int (z : Int) : PlD 0 (.int z) := .inr (.inl ⟨z, rfl⟩)
theorem PlD.bool (z : Bool) : PlD 0 (.bool z) := .inr (.inr (.inl ⟨z, rfl⟩))
theorem PlD.tup {n : Nat} {ds : List PyData} (l : ds.length ≤ 1000) (h : ∀ x ∈ ds, PlD n x) : PlD (n + 1) (.tuple ds) := .inr ⟨ds, rfl, l, h⟩
def spSame (K : PySem.W.Frag) (n : Nat) : Sp := fun vs H Q _ => ∃ (G : Hp) (M : List (Addr × HO)) (v1 v2 : V) (d : PyData), vs = [v1, v2] ∧ Sep G M H ∧ Dp K G v1 d ∧ Dp K G v2 d ∧ PlD n d ∧ ∀ (G' H' : Hp), Same G G' → Sep G' M H' → Q (.bl true) H'
theorem fn_imp {P : Program} {w : World} {K : PySem.W.Frag} {mg : Str → Option Value} {base : Heap} {CX : CXT} {k : Nat} {f : Addr} {fd : FuncData} {ps : List Str} {sp sq : Sp} (h : FnOk P w K mg base CX k f fd ps sq) (i : ∀ vs H Q E, sp vs H Q E → sq vs H Q E) : FnOk P w K mg base CX k f fd ps sp :=
  ⟨fun vs H Q E q => h.len vs H Q E (i _ _ _ _ q), fun A outer s H args us vs Q E hr he hb hv q => h.run A outer s H args us vs Q E hr he hb hv (i _ _ _ _ q)⟩
def spSameF (K : PySem.W.Frag) : Sp := fun vs H Q _ => ∃ (G : Hp) (M : List (Addr × HO)) (v1 v2 : V) (d : PyData), vs = [v1, v2] ∧ Sep G M H ∧ Dp K G v1 d ∧ Dp K G v2 d ∧ FlatD d ∧ ∀ (G' H' : Hp), Same G G' → Sep G' M H' → Q (.bl true) H'
def spSameT (K : PySem.W.Frag) (n : Nat) : Sp := fun vs H Q _ => ∃ (G : Hp) (M : List (Addr × HO)) (v1 v2 : V) (ds : List PyData), vs = [v1, v2] ∧ Sep G M H ∧ Dp K G v1 (.tuple ds) ∧ Dp K G v2 (.tuple ds) ∧ (ds.length ≤ 1000 ∧ ∀ x ∈ ds, PlD n x) ∧ ∀ (G' H' : Hp), Same G G' → Sep G' M H' → Q (.bl true) H'
theorem ok_sameF (T : Top K mg w) {k L : Nat} (hL : k ≤ L) {sq : Sp} (G_number : FnOk P w K mg base CX0 k T.a_number T.d_number ["_law_thing"] spNumber) (G_same : FnOk P w K mg base CX0 L T.a_same T.d_same ["_law_first", "_law_second"] sq) : FnOk P w K mg base CX0 (L + 1) T.a_same T.d_same ["_law_first", "_law_second"] (spSameF K) := by
  refine T.F_same.ok sc_same (fun vs H Q E h => ?_) (fun cdv A outer s H vs Q E hr h => ?_)
  · obtain ⟨G, M, v1, v2, d, rfl, _⟩ := h
    rfl
  · obtain ⟨G, M, v1, v2, d, rfl, S, h1, h2, fd, q⟩ := h
    refine ⟨_, (pss_cons (xs_if (xt_truK K (pe_callB (call_isK K) (by rfl) T.m_isinstance (by decide +kernel) (pa_cons (xv 1) (pa_cons (pe_bltn (v := .ty "tuple") (by rfl) T.m_tuple (by decide +kernel) rfl) pa_nil))))
      (pss_cons (xs_if (PW.pt (xw_or (pt_not (xt_truK K (pe_callB (call_isK K) (by rfl) T.m_isinstance (by decide +kernel) (pa_cons (xv 0) (pa_cons (pe_bltn (v := .ty "tuple") (by rfl) T.m_tuple (by decide +kernel) rfl) pa_nil))))) (pw_or1 (xt_cmp (op_neLK K hr.u190) (pe_callB (cr_lenK K) (by rfl) T.m_len (by decide +kernel) (pa_cons (xv 0) pa_nil)) (pe_callB (cr_lenK K) (by rfl) T.m_len (by decide +kernel) (pa_cons (xv 1) pa_nil)) (nomark _)))))
      (pss_one (ps_ret pe_bl))
      pss_nil)
      (pss_one (ps_ret (pe_callB (cr_allK K rfl) (by rfl) T.m_all (by decide +kernel) (pa_cons (pe_lc (own := [("_law_at", 2), ("_law_part", 3)]) (by rfl) sc_same.nd (pi_enumT (by rfl) T.m_enumerate (pa_cons (xv 1) pa_nil)) (blkOk_by (N := ["_law_first", "_law_second", "_law_at", "_law_part"]) (sc := defScope s_same) (by decide +kernel)) (fun _ _ _ _ _ => (pg_tupK K 2 (pgs_cons (pg_name (i := 2) sc_same.nd rfl (.inl rfl)) (pgs_cons (pg_name (i := 3) sc_same.nd rfl (.inl rfl)) pgs_nil)))) (fun _ _ _ _ _ => pts_nil) (fun _ _ _ _ _ => (pe_call G_same (hr.mono (by omega)) (by rfl) T.g_same T.F_same.kp T.b_same .nil pass0 (pa_cons (pe_ix (ix_k K) (xv 0) (xv 2) (fun _ _ => rfl)) (pa_cons (xv 3) pa_nil))))) pa_nil)))))
      pss_nil)
      (pss_cons (xs_if (PW.pt (xw_or (xt_cmp op_isN (xv 1) pe_non (nomark _)) (pw_or1 (xt_truK K (pe_callB (call_isK K) (by rfl) T.m_isinstance (by decide +kernel) (pa_cons (xv 1) (pa_cons (pe_bltn (v := .ty "bool") (by rfl) T.m_bool (by decide +kernel) rfl) pa_nil)))))))
      (pss_one (ps_ret (xe_if (xt_cmp op_isN (xv 1) pe_non (nomark _)) (pe_cmpR op_isN (xv 0) pe_non (nomark _)) (xe_and (pe_callB (call_isK K) (by rfl) T.m_isinstance (by decide +kernel) (pa_cons (xv 0) (pa_cons (pe_bltn (v := .ty "bool") (by rfl) T.m_bool (by decide +kernel) rfl) pa_nil))) (pe_one (pe_cmpR (op_eqLK K hr.u190) (xv 0) (xv 1) (nomark _)))))))
      pss_nil)
      (pss_cons (xs_if (xt_truK K (pe_callB (call_isK K) (by rfl) T.m_isinstance (by decide +kernel) (pa_cons (xv 1) (pa_cons (pe_bltn (v := .ty "str") (by rfl) T.m_str (by decide +kernel) rfl) pa_nil))))
      (pss_one (ps_ret (xe_and (pe_callB (call_isK K) (by rfl) T.m_isinstance (by decide +kernel) (pa_cons (xv 0) (pa_cons (pe_bltn (v := .ty "str") (by rfl) T.m_str (by decide +kernel) rfl) pa_nil))) (pe_one (pe_cmpR (op_eqLK K hr.u190) (xv 0) (xv 1) (nomark _))))))
      pss_nil)
      (pss_one (ps_ret (xe_and (pe_call G_number (hr.mono (by omega)) (by rfl) T.g_number T.F_number.kp T.b_number .nil pass0 (pa_cons (xv 0) pa_nil)) (pe_one (pe_cmpR (op_eqLK K hr.u190) (xv 0) (xv 1) (nomark _))))))))), ?_⟩
    have q := q G H (Same.refl _) S
    rcases fd with ⟨z, rfl⟩ | ⟨i, rfl⟩ | ⟨b, rfl⟩ | rfl
    · obtain rfl := dp_str h1
      obtain rfl := dp_str h2
      refine ⟨_, _, _, _, false, rfl, .ty _, .base (.str _), kit_ty (by decide +kernel), ff, fun _ => ?_⟩
      refine ⟨rfl, fun e => (nomatch e), fun _ => ⟨_, _, _, _, false, rfl, .ty _, .base (.str _), kit_ty (by decide +kernel), ff, fun _ => ?_⟩⟩
      refine ⟨_, _, _, _, true, rfl, .ty _, .base (.str _), kit_ty (by decide +kernel), fun _ => ⟨_, _, _, _, true, rfl, .ty _, .base (.str _), kit_ty (by decide +kernel), fun _ => ?_, tt⟩, tt⟩
      show Q (.bl (decide (z = z))) H
      rw [decide_eq_true rfl]
      exact q
    · obtain rfl := dp_int h1
      obtain rfl := dp_int h2
      refine ⟨_, _, _, _, false, rfl, .ty _, .base (.int _), kit_ty (by decide +kernel), ff, fun _ => ?_⟩
      refine ⟨rfl, fun e => (nomatch e), fun _ => ⟨_, _, _, _, false, rfl, .ty _, .base (.int _), kit_ty (by decide +kernel), ff, fun _ => ?_⟩⟩
      refine ⟨_, _, _, _, false, rfl, .ty _, .base (.int _), kit_ty (by decide +kernel), ff, fun _ => ⟨i, rfl, fun _ => ?_, tt⟩⟩
      show Q (.bl (decide (i = i))) H
      rw [decide_eq_true rfl]
      exact q
    · obtain rfl := dp_bl h1
      obtain rfl := dp_bl h2
      refine ⟨_, _, _, _, false, rfl, .ty _, .base (.bl _), kit_ty (by decide +kernel), ff, fun _ => ?_⟩
      refine ⟨rfl, fun e => (nomatch e), fun _ => ⟨_, _, _, _, true, rfl, .ty _, .base (.bl _), kit_ty (by decide +kernel), fun _ => ?_, tt⟩⟩
      refine ⟨rfl, fun e => (nomatch e), fun _ => ⟨_, _, _, _, true, rfl, .ty _, .base (.bl _), kit_ty (by decide +kernel), fun _ => ?_, tt⟩⟩
      show Q (.bl (decide (b = b))) H
      rw [decide_eq_true rfl]
      exact q
    · obtain rfl := dp_non h1
      obtain rfl := dp_non h2
      refine ⟨_, _, _, _, false, rfl, .ty _, .base .non, kit_ty (by decide +kernel), ff, fun _ => ?_⟩
      exact ⟨rfl, fun _ => ⟨fun _ => ⟨rfl, fun _ => ⟨rfl, q⟩, fun e => (nomatch e)⟩, tt⟩, fun e => (nomatch e)⟩
theorem ok_sameT (T : Top K mg w) {k L n : Nat} (hL : k ≤ L) (G_number : FnOk P w K mg base CX0 k T.a_number T.d_number ["_law_thing"] spNumber) (G_same : FnOk P w K mg base CX0 L T.a_same T.d_same ["_law_first", "_law_second"] (spSame K n)) : FnOk P w K mg base CX0 (L + 1) T.a_same T.d_same ["_law_first", "_law_second"] (spSameT K n) := by
  refine T.F_same.ok sc_same (fun vs H Q E h => ?_) (fun cdv A outer s H vs Q E hr h => ?_)
  · obtain ⟨G, M, v1, v2, d, rfl, _⟩ := h
    rfl
  · obtain ⟨G, M, v1, v2, ds, rfl, S, h1, h2, ⟨dl, hd⟩, q⟩ := h
    refine ⟨_, (pss_cons (xs_if (xt_truK K (pe_callB (call_isK K) (by rfl) T.m_isinstance (by decide +kernel) (pa_cons (xv 1) (pa_cons (pe_bltn (v := .ty "tuple") (by rfl) T.m_tuple (by decide +kernel) rfl) pa_nil))))
      (pss_cons (xs_if (PW.pt (xw_or (pt_not (xt_truK K (pe_callB (call_isK K) (by rfl) T.m_isinstance (by decide +kernel) (pa_cons (xv 0) (pa_cons (pe_bltn (v := .ty "tuple") (by rfl) T.m_tuple (by decide +kernel) rfl) pa_nil))))) (pw_or1 (xt_cmp (op_neLK K hr.u190) (pe_callB (cr_lenK K) (by rfl) T.m_len (by decide +kernel) (pa_cons (xv 0) pa_nil)) (pe_callB (cr_lenK K) (by rfl) T.m_len (by decide +kernel) (pa_cons (xv 1) pa_nil)) (nomark _)))))
      (pss_one (ps_ret pe_bl))
      pss_nil)
      (pss_one (ps_ret (pe_callB (cr_allK K rfl) (by rfl) T.m_all (by decide +kernel) (pa_cons (pe_lc (own := [("_law_at", 2), ("_law_part", 3)]) (by rfl) sc_same.nd (pi_enumT (by rfl) T.m_enumerate (pa_cons (xv 1) pa_nil)) (blkOk_by (N := ["_law_first", "_law_second", "_law_at", "_law_part"]) (sc := defScope s_same) (by decide +kernel)) (fun _ _ _ _ _ => (pg_tupK K 2 (pgs_cons (pg_name (i := 2) sc_same.nd rfl (.inl rfl)) (pgs_cons (pg_name (i := 3) sc_same.nd rfl (.inl rfl)) pgs_nil)))) (fun _ _ _ _ _ => pts_nil) (fun _ _ _ _ _ => (pe_call G_same (hr.mono (by omega)) (by rfl) T.g_same T.F_same.kp T.b_same .nil pass0 (pa_cons (pe_ix (ix_k K) (xv 0) (xv 2) (fun _ _ => rfl)) (pa_cons (xv 3) pa_nil))))) pa_nil)))))
      pss_nil)
      (pss_cons (xs_if (PW.pt (xw_or (xt_cmp op_isN (xv 1) pe_non (nomark _)) (pw_or1 (xt_truK K (pe_callB (call_isK K) (by rfl) T.m_isinstance (by decide +kernel) (pa_cons (xv 1) (pa_cons (pe_bltn (v := .ty "bool") (by rfl) T.m_bool (by decide +kernel) rfl) pa_nil)))))))
      (pss_one (ps_ret (xe_if (xt_cmp op_isN (xv 1) pe_non (nomark _)) (pe_cmpR op_isN (xv 0) pe_non (nomark _)) (xe_and (pe_callB (call_isK K) (by rfl) T.m_isinstance (by decide +kernel) (pa_cons (xv 0) (pa_cons (pe_bltn (v := .ty "bool") (by rfl) T.m_bool (by decide +kernel) rfl) pa_nil))) (pe_one (pe_cmpR (op_eqLK K hr.u190) (xv 0) (xv 1) (nomark _)))))))
      pss_nil)
      (pss_cons (xs_if (xt_truK K (pe_callB (call_isK K) (by rfl) T.m_isinstance (by decide +kernel) (pa_cons (xv 1) (pa_cons (pe_bltn (v := .ty "str") (by rfl) T.m_str (by decide +kernel) rfl) pa_nil))))
      (pss_one (ps_ret (xe_and (pe_callB (call_isK K) (by rfl) T.m_isinstance (by decide +kernel) (pa_cons (xv 0) (pa_cons (pe_bltn (v := .ty "str") (by rfl) T.m_str (by decide +kernel) rfl) pa_nil))) (pe_one (pe_cmpR (op_eqLK K hr.u190) (xv 0) (xv 1) (nomark _))))))
      pss_nil)
      (pss_one (ps_ret (xe_and (pe_call G_number (hr.mono (by omega)) (by rfl) T.g_number T.F_number.kp T.b_number .nil pass0 (pa_cons (xv 0) pa_nil)) (pe_one (pe_cmpR (op_eqLK K hr.u190) (xv 0) (xv 1) (nomark _))))))))), ?_⟩
    obtain ⟨a, xs, rfl, ha, hx⟩ := dp_tup h1
    obtain ⟨b, ys, rfl, hb, hy⟩ := dp_tup h2
    have xl := dpa_len hx
    have yl := dpa_len hy
    refine ⟨_, _, _, _, true, rfl, .ty _, sqT_ty (S.t hb), kit_ty (by decide +kernel), fun _ => ?_, tt⟩
    refine ⟨_, _, _, _, true, rfl, .ty _, sqT_ty (S.t ha), kit_ty (by decide +kernel), fun e => (nomatch e), fun _ => ⟨_, .inr (S.t ha), _, .inr (S.t hb), fun e => ?_, fun _ => ?_⟩⟩
    · have e2 : (!decide ((xs.length : Int) = (ys.length : Nat))) = true := e
      rw [decide_eq_true (by omega)] at e2
      cases e2
    · refine ⟨b, ys, rfl, S.t hb, fun D nD => lc_dp (K := K) (walk_enumT (K := K) (xs := ys)) S nD (List.replicate ds.length (.bool true)) (by rw [List.length_replicate, yl]) (by omega) (fun G' H' ws s' S' => S'.t (same_t s' hb)) (fun i y d G' H' H2 ws R hi hd1 s' S' yy hR => ?_) (fun G3 H3 ws s3 S3 hw => ?_)⟩
      · obtain ⟨T2, a1, a2, rfl, nT2, rfl, ha1, ha2⟩ := yy
        cases ha1
        rw [rep_get hd1] at hR
        obtain ⟨e, he, hye⟩ := dpa_get hy ha2
        obtain ⟨x1, hx1, hxe⟩ := dp_get hx he
        have S19 := S'.newG (o := .tup [.int (i : Nat), a2]) nT2
        have s19 := S'.grow (o := .tup [.int (i : Nat), a2]) nT2
        exact ⟨T2, _, rfl, SqT.of upd_same, rfl, _, _, rfl, _, _, rfl, rfl, rfl, _, _, .inr (S19.t (same_t (s'.trans s19) ha)), atI_nat hx1, _, _, x1, a2, e, rfl, S19, dp_same (s'.trans s19) hxe, dp_same (s'.trans s19) hye, hd e (List.mem_of_getElem? he), fun G4 H4 s4 S4 => hR _ G4 H4 (s19.trans s4) S4 (.bl true)⟩
      · rw [dpa_yes hw] at S3
        refine ⟨D, List.replicate ds.length true, rfl, SqL.of S3.hd, ?_⟩
        rw [all_yes]
        exact q _ _ s3 S3.drop
theorem ok_same (T : Top K mg w) {k : Nat} (G_number : FnOk P w K mg base CX0 k T.a_number T.d_number ["_law_thing"] spNumber) : ∀ n, FnOk P w K mg base CX0 (k + 1 + n) T.a_same T.d_same ["_law_first", "_law_second"] (spSame K n)
  | 0 => fn_imp (ok_sameF T (Nat.le_refl k) G_number (fn_false (sp := fun _ _ _ _ => False) fun _ _ _ _ h => h)) fun vs H Q E h => h
  | n + 1 => fn_imp (fn_or (ok_sameF T (show k ≤ k + 1 + n by omega) G_number (ok_same T G_number n)) (ok_sameT T (show k ≤ k + 1 + n by omega) G_number (ok_same T G_number n))) fun vs H Q E h => by
    obtain ⟨G, M, v1, v2, d, e, S, h1, h2, hp, q⟩ := h
    rcases hp with hp | ⟨ds, rfl, hl, hd⟩
    · exact .inl ⟨G, M, v1, v2, d, e, S, h1, h2, hp, q⟩
    · exact .inr ⟨G, M, v1, v2, ds, e, S, h1, h2, ⟨hl, hd⟩, q⟩
/-! ### _law_sorted of texts -/
def leS (a b : Str) : Bool := !decide (b.cps.toList < a.cps.toList)
def posS (z : Str) (l : List Str) : Nat := (l.takeWhile fun y => leS y z).length
def insS (l : List Str) (z : Str) : List Str := l.take (posS z l) ++ [z] ++ l.drop (posS z l)
def srtS (ns : List Str) : List Str := ns.foldl insS []
theorem posS_le (z : Str) (l : List Str) : posS z l ≤ l.length := (List.takeWhile_sublist _).length_le
theorem insS_len (l : List Str) (z : Str) : (insS l z).length = l.length + 1 := by
  have := posS_le z l
  unfold insS
  simp only [List.length_append, List.length_take, List.length_drop, List.length_cons, List.length_nil]
  omega
theorem foldS_len (ns : List Str) : ∀ l : List Str, (ns.foldl insS l).length = l.length + ns.length := by
  induction ns with
  | nil => intro l; rfl
  | cons z r ih =>
    intro l
    rw [List.foldl_cons, ih, insS_len, List.length_cons]
    omega
theorem srtS_snoc (ns : List Str) (z : Str) : srtS (ns ++ [z]) = insS (srtS ns) z := by
  unfold srtS
  rw [List.foldl_append]
  rfl
/-- the walk to the place -/
theorem tw_go {l : List Str} {z y : Str} {i : Nat} (h : ∀ j, j < i → ∃ x, l[j]? = some x ∧ leS x z = true) (hi : l[i]? = some y) (hy : leS y z = false) : posS z l = i := by
  unfold posS
  induction l generalizing i with
  | nil => simp at hi
  | cons x r ih =>
    cases i with
    | zero =>
      simp at hi
      subst hi
      rw [List.takeWhile_cons, hy]
      rfl
    | succ i =>
      obtain ⟨x', h1, h2⟩ := h 0 (by omega)
      simp at h1
      subst h1
      rw [List.takeWhile_cons, h2]
      simp only [if_true, List.length_cons]
      rw [ih (i := i) (fun j hj => by
        obtain ⟨x', h1, h2⟩ := h (j + 1) (by omega)
        exact ⟨x', by simpa using h1, h2⟩) (by simpa using hi)]
theorem tw_all {l : List Str} {z : Str} (h : ∀ j, j < l.length → ∃ x, l[j]? = some x ∧ leS x z = true) : posS z l = l.length := by
  unfold posS
  induction l with
  | nil => rfl
  | cons x r ih =>
    obtain ⟨x', h1, h2⟩ := h 0 (by simp)
    simp at h1
    subst h1
    rw [List.takeWhile_cons, h2]
    simp only [if_true, List.length_cons]
    rw [ih fun j hj => by
      obtain ⟨x', h1, h2⟩ := h (j + 1) (by simp; omega)
      exact ⟨x', by simpa using h1, h2⟩]
def spSorted (K : PySem.W.Frag) : Sp := fun vs H Q _ => ∃ (G : Hp) (M : List (Addr × HO)) (v : V) (ns : List Str), vs = [v] ∧ Sep G M H ∧ Dp K G v (strsD ns) ∧ ns.length ≤ 1000 ∧ ∀ (l : Addr) (G' H' : Hp), Same G G' → G' l = some (.lst ((srtS ns).map V.str)) → Sep G' M H' → Q (.ref l) H'
theorem ok_sorted (T : Top K mg w) {k : Nat} : FnOk P w K mg base CX0 (k + 1) T.a_sorted T.d_sorted ["_law_things"] (spSorted K) := by
  refine T.F_sorted.ok sc_sorted (fun vs H Q E h => ?_) (fun cdv A outer s0 H vs Q E hr h => ?_)
  · obtain ⟨G, M, v, ns, rfl, _⟩ := h
    rfl
  · obtain ⟨G, M, v, ns, rfl, S, hv, nl, q⟩ := h
    refine ⟨_, (pss_cons (ps_set (i := 1) sc_sorted.nd rfl (.inl rfl) (pe_lst pa_nil))
      (pss_cons (ps_for PassesOwn.never rfl (pi_tupK K (xv 0)) (pg_name (i := 2) sc_sorted.nd rfl (.inl rfl))
      (pss_cons (ps_set (i := 3) sc_sorted.nd rfl (.inl rfl) pe_int)
      (pss_cons (xs_while PassesOwn.never (PW.pt (xw_and (xt_cmp op_ltY (xv 3) (pe_callB (cr_lenK K) (by rfl) T.m_len (by decide +kernel) (pa_cons (xv 1) pa_nil)) (nomark _)) (pw_and1 (xt_cmp op_le_str (pe_ix (ix_k K) (xv 1) (xv 3) (fun _ _ => rfl)) (xv 2) (nomark _)))))
      (pss_one (ps_aug (i := 3) sc_sorted.nd rfl (.inl rfl) pe_int ip_add)))
      (pss_one (ps_expr (pe_bmK K PySem.F.plainAttrs_list PySem.F.slot_list_insert PySem.F.type_list_insert mt_insert (xv 1) (pa_cons (xv 3) (pa_cons (xv 2) pa_nil))))))))
      (pss_one (ps_ret (xv 1))))), ?_⟩
    obtain ⟨p, xs, rfl, hp, hx⟩ := dp_tup hv
    obtain rfl := dpa_strs hx
    refine ⟨sz, fun O nO => ?_⟩
    have S1 := S.new (o := .lst []) nO
    refine ⟨p, rfl, ⟨_, S1.t hp⟩, for_tup (xs := ns.map V.str) (fun i σ H' => ∃ (y2 y3 : Option V), σ = [some (.ref p), some (.ref O), y2, y3] ∧ Sep G ((O, .lst ((srtS (ns.take i)).map V.str)) :: M) H') ⟨_, _, rfl, S1⟩ (fun i σ H' _ h => ?_) (fun i x σ H' hx h => ?_) (fun σ H' h => ?_)⟩
    · obtain ⟨_, _, _, S'⟩ := h
      exact S'.t hp
    · obtain ⟨y2, y3, rfl, S'⟩ := h
      rw [List.getElem?_map] at hx
      obtain ⟨z, hz, rfl⟩ := Option.map_eq_some_iff.mp hx
      have sl : (srtS (ns.take i)).length ≤ 1000 := by
        unfold srtS
        rw [foldS_len, List.length_take, List.length_nil]
        omega
      have es : srtS (ns.take (i + 1)) = insS (srtS (ns.take i)) z := by rw [XL.take_snoc hz, srtS_snoc]
      generalize srtS (ns.take i) = os at S' sl es
      refine ⟨fun m σ H2 => ∃ (at' : Nat), σ = [some (.ref p), some (.ref O), some (.str z), some (.int (at' : Nat))] ∧ at' ≤ os.length ∧ m = os.length - at' ∧ H2 = H' ∧ ∀ j, j < at' → ∃ x, os[j]? = some x ∧ leS x z = true, ⟨_, 0, rfl, Nat.zero_le _, rfl, rfl, fun j hj => absurd hj (by omega)⟩, fun m σ H2 h => ?_⟩
      obtain ⟨at', rfl, al, rfl, rfl, hall⟩ := h
      have ins : posS z os = at' → Sep G ((O, .lst ((insS os z).map V.str)) :: M) (upd H2 O (.lst (((os.map V.str).take (Int.toNat (at' : Nat))) ++ [V.str z] ++ ((os.map V.str).drop (Int.toNat (at' : Nat)))))) := fun e => by
        have e2 : (insS os z).map V.str = ((os.map V.str).take (Int.toNat (at' : Nat))) ++ [V.str z] ++ ((os.map V.str).drop (Int.toNat (at' : Nat))) := by
          unfold insS
          rw [e, List.map_append, List.map_append, List.map_take, List.map_drop]
          rfl
        rw [e2]
        exact S'.set
      refine ⟨_, .inl (SqL.of S'.hd), fun e => ?_, fun e => ?_⟩
      · have lt := of_decide_eq_true e
        rw [List.length_map] at lt
        have lt : at' < os.length := by omega
        have eo := List.getElem?_eq_getElem lt
        refine ⟨_, _, .inl (SqL.of S'.hd), atI_nat (j := at') (show (os.map V.str)[at']? = _ by rw [List.getElem?_map, eo]; rfl), _, z, rfl, rfl, fun e2 => ?_, fun e2 => ?_⟩
        · refine ⟨_, rfl, _, _, rfl, rfl, os.length - (at' + 1), by omega, at' + 1, rfl, by omega, rfl, rfl, fun j hj => ?_⟩
          by_cases hj2 : j < at'
          · exact hall j hj2
          · have : j = at' := by omega
            subst this
            exact ⟨_, eo, e2⟩
        · refine ⟨.inl ⟨rfl, _, SqL.of S'.hd⟩, O, _, (at' : Nat), .str z, rfl, rfl, S'.hd, smallL (by rw [List.length_map]; omega), by omega, by omega, _, _, rfl, ?_⟩
          rw [es]
          exact ins (tw_go hall eo e2)
      · have lt := of_decide_eq_false e
        rw [List.length_map] at lt
        have lt : at' = os.length := by omega
        refine ⟨ff, fun _ => ⟨.inl ⟨rfl, _, SqL.of S'.hd⟩, O, _, (at' : Nat), .str z, rfl, rfl, S'.hd, smallL (by rw [List.length_map]; omega), by omega, by omega, _, _, rfl, ?_⟩⟩
        rw [es]
        exact ins ((tw_all (fun j hj => hall j (by omega))).trans lt.symm)
    · obtain ⟨y2, y3, rfl, S'⟩ := h
      rw [List.length_map, List.take_length] at S'
      obtain ⟨G2, s2, S2, h2⟩ := Sep.keep S'
      exact q O G2 _ s2 h2 S2

end
end K57
set_option Elab.async false
set_option linter.all false
set_option maxRecDepth 100000
set_option maxHeartbeats 4000000
namespace K57
open PySem PySem.Spec PyProof.Rows L2 XL
section
variable {P : Program} {w : World} {K : PySem.W.Frag} {mg : Str → Option Value} {base : Heap}
/-! ### _law_is -/
theorem gm_pl : ∀ f : Gm, PlD f.dep f.dat
  | .is n => PlD.tup (by show 2 ≤ 1000; omega) fun x hx => by
    simp only [List.mem_cons, List.not_mem_nil, or_false] at hx
    rcases hx with rfl | rfl
    · exact PlD.str _
    · exact PlD.int _
  | .get n => PlD.tup (by show 2 ≤ 1000; omega) fun x hx => by
    simp only [List.mem_cons, List.not_mem_nil, or_false] at hx
    rcases hx with rfl | rfl
    · exact PlD.str _
    · exact PlD.str _
  | .sum a b => PlD.tup (n := max a.dep b.dep) (by show 3 ≤ 1000; omega) fun x hx => by
    simp only [List.mem_cons, List.not_mem_nil, or_false] at hx
    rcases hx with rfl | rfl | rfl
    · exact (PlD.str _).mono (Nat.zero_le _)
    · exact (gm_pl a).mono (by omega)
    · exact (gm_pl b).mono (by omega)
  | .same a b => PlD.tup (n := max a.dep b.dep) (by show 3 ≤ 1000; omega) fun x hx => by
    simp only [List.mem_cons, List.not_mem_nil, or_false] at hx
    rcases hx with rfl | rfl | rfl
    · exact (PlD.str _).mono (Nat.zero_le _)
    · exact (gm_pl a).mono (by omega)
    · exact (gm_pl b).mono (by omega)
  | .pick a b c => PlD.tup (n := max a.dep (max b.dep c.dep)) (by show 4 ≤ 1000; omega) fun x hx => by
    simp only [List.mem_cons, List.not_mem_nil, or_false] at hx
    rcases hx with rfl | rfl | rfl | rfl
    · exact (PlD.str _).mono (Nat.zero_le _)
    · exact (gm_pl a).mono (by omega)
    · exact (gm_pl b).mono (by omega)
    · exact (gm_pl c).mono (by omega)
theorem gdf_pl {ns : List Str} {f : Gm} (h : GdF ns f) : PlD 5 f.dat := (gm_pl f).mono h.2
theorem fm_pl {ns : List Str} {d : PyData} (h : FmD ns d) : PlD 5 d := by
  obtain ⟨f, rfl, h⟩ := h
  exact gdf_pl h
theorem nm_pl {d : PyData} (h : NmD d) : PlD 0 d := by
  obtain ⟨z, rfl, _⟩ := h
  exact PlD.str z
theorem strs_pl {ns : List Str} (l : ns.length ≤ 1000) : PlD 1 (strsD ns) := PlD.tup (by rw [List.length_map]; exact l) fun x hx => by
  obtain ⟨z, _, rfl⟩ := List.mem_map.mp hx
  exact PlD.str z
theorem PlD.one {n : Nat} {ds : List PyData} (l : ds.length ≤ 1000) (h : ∀ x ∈ ds, ∃ m, m ≤ n ∧ PlD m x) : PlD (n + 1) (.tuple ds) := PlD.tup l fun x hx => let ⟨_, h1, h2⟩ := h x hx; h2.mono h1
theorem gdm_pl {m : PyData} (h : GdM m) : PlD 2 m := by
  obtain ⟨rs, rfl, l1, l4, hr⟩ := h
  refine PlD.tup (by rw [List.length_map]; omega) fun x hx => ?_
  obtain ⟨r, hr1, rfl⟩ := List.mem_map.mp hx
  refine PlD.tup (by rw [List.length_map]; have := (hr r hr1).1; omega) fun y hy => ?_
  obtain ⟨i, _, rfl⟩ := List.mem_map.mp hy
  exact PlD.int i
theorem fms_pl {ns : List Str} {fs : List PyData} (l : fs.length ≤ 16) (h : ∀ f ∈ fs, FmD ns f) : PlD 6 (.tuple fs) := PlD.tup (by omega) fun x hx => fm_pl (h x hx)
theorem sh_pl {ns : List Str} : ∀ (n : Nat) (s : Sh), hgt s ≤ n → SG ns s → PlD (2 * n + 5) (toD s)
  | 0, s, h, _ => by rw [hgt_eq] at h; omega
  | n + 1, s, h, sg => by
    have lg := sg.loc
    have ih := fun p (hp : p ∈ parts s) => sh_pl n p (by have := hgt_part hp; omega) (sg.part hp)
    have e : 2 * (n + 1) + 5 = (2 * n + 6) + 1 := by omega
    rw [e]
    cases s with
    | text f =>
      simp only [toD]
      refine PlD.tup (by show 2 ≤ 1000; omega) fun x hx => ?_
      simp only [List.mem_cons, List.not_mem_nil, or_false] at hx
      rcases hx with rfl | rfl
      · exact (PlD.str _).mono (Nat.zero_le _)
      · exact (fm_pl lg).mono (by omega)
    | button f =>
      simp only [toD]
      refine PlD.tup (by show 2 ≤ 1000; omega) fun x hx => ?_
      simp only [List.mem_cons, List.not_mem_nil, or_false] at hx
      rcases hx with rfl | rfl
      · exact (PlD.str _).mono (Nat.zero_le _)
      · exact (nm_pl lg).mono (by omega)
    | put c fs =>
      obtain ⟨h1, h2, h3⟩ : NmD c ∧ fs.length ≤ 16 ∧ ∀ f ∈ fs, FmD ns f := lg
      simp only [toD]
      refine PlD.tup (by show 3 ≤ 1000; omega) fun x hx => ?_
      simp only [List.mem_cons, List.not_mem_nil, or_false] at hx
      rcases hx with rfl | rfl | rfl
      · exact (PlD.str _).mono (Nat.zero_le _)
      · exact (nm_pl h1).mono (by omega)
      · exact (fms_pl h2 h3).mono (by omega)
    | each t m k c fs =>
      obtain ⟨h1, h2, h3, h4, h5, h6⟩ : FmD ns t ∧ GdM m ∧ FmD ["item", "at"] k ∧ NmD c ∧ fs.length ≤ 16 ∧ ∀ f ∈ fs, FmD (ns ++ (["item", "at"] : List Str)) f := lg
      simp only [toD]
      refine PlD.tup (by show 6 ≤ 1000; omega) fun x hx => ?_
      simp only [List.mem_cons, List.not_mem_nil, or_false] at hx
      rcases hx with rfl | rfl | rfl | rfl | rfl | rfl
      · exact (PlD.str _).mono (Nat.zero_le _)
      · exact (fm_pl h1).mono (by omega)
      · exact (gdm_pl h2).mono (by omega)
      · exact (fm_pl h3).mono (by omega)
      · exact (nm_pl h4).mono (by omega)
      · exact (fms_pl h5 h6).mono (by omega)
    | line c ps =>
      have l16 : ps.length ≤ 16 := lg
      simp only [toD, toDs_eq]
      refine PlD.tup (by show 2 ≤ 1000; omega) fun x hx => ?_
      simp only [List.mem_cons, List.not_mem_nil, or_false] at hx
      rcases hx with rfl | rfl
      · exact (PlD.str _).mono (Nat.zero_le _)
      · refine PlD.tup (n := 2 * n + 5) (by rw [List.length_map]; omega) fun y hy => ?_
        obtain ⟨p, hp, rfl⟩ := List.mem_map.mp hy
        exact ih p hp
    | wen f a b =>
      simp only [toD]
      refine PlD.tup (by show 4 ≤ 1000; omega) fun x hx => ?_
      simp only [List.mem_cons, List.not_mem_nil, or_false] at hx
      rcases hx with rfl | rfl | rfl | rfl
      · exact (PlD.str _).mono (Nat.zero_le _)
      · exact (fm_pl lg).mono (by omega)
      · exact (ih a (by simp [parts])).mono (by omega)
      · exact (ih b (by simp [parts])).mono (by omega)
theorem GdC.sg {c : Cp} (gc : GdC c) (c16 : cnt c.shape ≤ 16) : SG c.names c.shape := by
  rcases gc.s1 with h | ⟨col, ps, e, big⟩
  · exact h
  · rw [e] at c16
    have := many_le ps
    have := cnt_eq (.line col ps)
    have : cnt (.line col ps) = (numbs ps).length + 1 := this
    omega
theorem row_pl {α : Type} {n : Nat} {rows : List α} {fd : α → PyData} (l : rows.length ≤ 1000) (h : ∀ r ∈ rows, PlD n (fd r)) : PlD (n + 1) (.tuple (rows.map fd)) := PlD.tup (by rw [List.length_map]; exact l) fun x hx => by
  obtain ⟨r, hr, rfl⟩ := List.mem_map.mp hx
  exact h r hr
theorem two_pl {n : Nat} {a b : PyData} (h1 : PlD n a) (h2 : PlD n b) : PlD (n + 1) (.tuple [a, b]) := PlD.tup (by show 2 ≤ 1000; omega) fun x hx => by
  simp only [List.mem_cons, List.not_mem_nil, or_false] at hx
  rcases hx with rfl | rfl
  · exact h1
  · exact h2
theorem three_pl {n : Nat} {a b c : PyData} (h1 : PlD n a) (h2 : PlD n b) (h3 : PlD n c) : PlD (n + 1) (.tuple [a, b, c]) := PlD.tup (by show 3 ≤ 1000; omega) fun x hx => by
  simp only [List.mem_cons, List.not_mem_nil, or_false] at hx
  rcases hx with rfl | rfl | rfl
  · exact h1
  · exact h2
  · exact h3
theorem foldS_mem : ∀ (ns l : List Str) (z : Str), z ∈ ns.foldl insS l → z ∈ l ∨ z ∈ ns
  | [], l, z, h => .inl h
  | y :: r, l, z, h => by
    rcases foldS_mem r (insS l y) z h with h | h
    · unfold insS at h
      rcases List.mem_append.mp h with h | h
      · rcases List.mem_append.mp h with h | h
        · exact .inl (List.mem_of_mem_take h)
        · exact .inr (by rw [List.mem_singleton.mp h]; simp)
      · exact .inl (List.mem_of_mem_drop h)
    · exact .inr (List.mem_cons_of_mem _ h)
def partsD (c : Cp) : List PyData := [.str c.name, .tuple (c.takes.map d2), .tuple (c.hears.map d3), .tuple (c.cells.map d3), .tuple (c.asks.map dAsk), .tuple (c.gives.map dGive), .tuple (c.effs.map dEff), .tuple (c.deeds.map dDeed), dIsl c.isl, toD c.shape]
theorem parts_pl {c : Cp} (gc : GdC c) (c16 : cnt c.shape ≤ 16) : ∀ d ∈ partsD c, PlD 20 d := by
  have n1 := gc.t2.1; have n2 := gc.h2.1; have n3 := gc.c2.1; have n4 := gc.a2.1; have n5 := gc.g2.1; have n6 := gc.e2.1; have n7 := gc.d2.1
  intro d hd
  simp only [partsD, List.mem_cons, List.not_mem_nil, or_false] at hd
  rcases hd with rfl | rfl | rfl | rfl | rfl | rfl | rfl | rfl | rfl | rfl
  · exact (PlD.str _).mono (Nat.zero_le _)
  · exact (row_pl (n := 1) (by omega) fun r _ => two_pl (PlD.str _) (PlD.int _)).mono (by omega)
  · exact (row_pl (n := 1) (by omega) fun r _ => three_pl (PlD.str _) (PlD.int _) (PlD.int _)).mono (by omega)
  · exact (row_pl (n := 1) (by omega) fun r _ => three_pl (PlD.str _) (PlD.int _) (PlD.int _)).mono (by omega)
  · exact (row_pl (n := 6) (by omega) fun r hr => three_pl ((PlD.str _).mono (Nat.zero_le _)) (gdf_pl (gc.a2.2 r hr).1) ((PlD.str _).mono (Nat.zero_le _))).mono (by omega)
  · exact (row_pl (n := 6) (by omega) fun r hr => three_pl ((PlD.str _).mono (Nat.zero_le _)) ((PlD.int _).mono (Nat.zero_le _)) (gdf_pl (gc.g2.2 r hr).2.2)).mono (by omega)
  · refine (row_pl (n := 6) (by omega) fun r hr => ?_).mono (by omega)
    obtain ⟨g1, g2, g3⟩ := gc.e2.2 r hr
    have := nodup_sub g2 g3
    have := gc.many
    exact three_pl ((PlD.str _).mono (Nat.zero_le _)) (gdf_pl g1) ((strs_pl (by omega)).mono (by omega))
  · refine (row_pl (n := 8) (by omega) fun r hr => ?_).mono (by omega)
    obtain ⟨⟨_, l5⟩, _, g3⟩ := gc.d2.2 r hr
    exact three_pl ((PlD.str _).mono (Nat.zero_le _)) (row_pl (n := 6) (by omega) fun q hq => two_pl ((PlD.str _).mono (Nat.zero_le _)) (gdf_pl (g3 q hq).2)) ((PlD.bool _).mono (Nat.zero_le _))
  · cases c.isl with
    | none => exact PlD.mono (n := 0) (.inr (.inr (.inr rfl))) (Nat.zero_le _)
    | some r => exact (two_pl (PlD.str _) (PlD.bool _)).mono (by omega)
  · exact (sh_pl 5 c.shape gc.sh (gc.sg c16)).mono (by omega)
def spIs (K : PySem.W.Frag) (C : Addr) : Sp := fun vs H Q _ => ∃ (G : Hp) (M : List (Addr × HO)) (x D : Addr) (c : Cp), vs = [.ref x, .ref D] ∧ Sep G M H ∧ CpAt K C G x c ∧ PlAt K G D c ∧ GdC c ∧ cnt c.shape ≤ 16 ∧ ∀ (G' H' : Hp), Same G G' → Sep G' M H' → Q (.bl true) H'
theorem ok_is (T : Top K mg w) {k : Nat} (G_same : FnOk P w K mg base CX0 k T.a_same T.d_same ["_law_first", "_law_second"] (spSame K 20)) (G_sorted : FnOk P w K mg base CX0 k T.a_sorted T.d_sorted ["_law_things"] (spSorted K)) :
    FnOk P w K mg base CX0 (k + 1) T.a_is T.d_is ["_law_got_here", "_law_told"] (spIs K T.C_Component) := by
  refine T.F_is.ok sc_is (fun vs H Q E h => ?_) (fun cdv A outer s H vs Q E hr h => ?_)
  · obtain ⟨G, M, x, D, c, rfl, _⟩ := h
    rfl
  · obtain ⟨G, M, x, D, c, rfl, S, hx, hD, gc, c16, q⟩ := h
    refine ⟨_, (pss_cons (xs_if (PW.pt (xw_or (pt_not (xt_truK K (pe_callB (call_isK K) (by rfl) T.m_isinstance (by decide +kernel) (pa_cons (xv 0) (pa_cons (pe_glob (v := .ref T.C_Component) (by rfl) T.g_Component rfl) pa_nil))))) (pw_or1 (pt_not (xt_truK K (pe_callB (call_isK K) (by rfl) T.m_isinstance (by decide +kernel) (pa_cons (pe_fldK K (xv 0)) (pa_cons (pe_bltn (v := .ty "tuple") (by rfl) T.m_tuple (by decide +kernel) rfl) pa_nil))))))))
      (pss_one (ps_ret pe_bl))
      pss_nil)
      (pss_cons (ps_set (i := 2) sc_is.nd rfl (.inl rfl) (pe_lst (pa_cons (pe_tup (pa_cons (pe_fldK K (xv 0)) (pa_cons (pe_dget (hu_of hr) (xv 1) pe_str (fun _ _ => rfl)) pa_nil))) (pa_cons (pe_tup (pa_cons (pe_fldK K (xv 0)) (pa_cons (pe_dget (hu_of hr) (xv 1) pe_str (fun _ _ => rfl)) pa_nil))) (pa_cons (pe_tup (pa_cons (pe_fldK K (xv 0)) (pa_cons (pe_dget (hu_of hr) (xv 1) pe_str (fun _ _ => rfl)) pa_nil))) (pa_cons (pe_tup (pa_cons (pe_fldK K (xv 0)) (pa_cons (pe_dget (hu_of hr) (xv 1) pe_str (fun _ _ => rfl)) pa_nil))) (pa_cons (pe_tup (pa_cons (pe_fldK K (xv 0)) (pa_cons (pe_dget (hu_of hr) (xv 1) pe_str (fun _ _ => rfl)) pa_nil))) (pa_cons (pe_tup (pa_cons (pe_fldK K (xv 0)) (pa_cons (pe_dget (hu_of hr) (xv 1) pe_str (fun _ _ => rfl)) pa_nil))) (pa_cons (pe_tup (pa_cons (pe_fldK K (xv 0)) (pa_cons (pe_dget (hu_of hr) (xv 1) pe_str (fun _ _ => rfl)) pa_nil))) (pa_cons (pe_tup (pa_cons (pe_fldK K (xv 0)) (pa_cons (pe_dget (hu_of hr) (xv 1) pe_str (fun _ _ => rfl)) pa_nil))) (pa_cons (pe_tup (pa_cons (pe_fldK K (xv 0)) (pa_cons (pe_dget (hu_of hr) (xv 1) pe_str (fun _ _ => rfl)) pa_nil))) (pa_cons (pe_tup (pa_cons (pe_fldK K (xv 0)) (pa_cons (pe_dget (hu_of hr) (xv 1) pe_str (fun _ _ => rfl)) pa_nil))) pa_nil))))))))))))
      (pss_cons (xs_if (PW.pt (xw_or (pt_not (xt_truK K (pe_callB (cr_allK K rfl) (by rfl) T.m_all (by decide +kernel) (pa_cons (pe_lc (own := [("_law_one", 3), ("_law_two", 4)]) (by rfl) sc_is.nd (pi_listK K (xv 2)) (blkOk_by (N := ["_law_got_here", "_law_told", "_law_parts_here", "_law_one", "_law_two"]) (sc := defScope s_is) (by decide +kernel)) (fun _ _ _ _ _ => (pg_tupK K 2 (pgs_cons (pg_name (i := 3) sc_is.nd rfl (.inl rfl)) (pgs_cons (pg_name (i := 4) sc_is.nd rfl (.inl rfl)) pgs_nil)))) (fun _ _ _ _ _ => pts_nil) (fun _ _ _ _ _ => (pe_call G_same (hr.mono (by omega)) (by rfl) T.g_same T.F_same.kp T.b_same .nil pass0 (pa_cons (xv 3) (pa_cons (xv 4) pa_nil))))) pa_nil)))) (pw_or1 (pt_not (xt_truK K (pe_callB (cr_allK K rfl) (by rfl) T.m_all (by decide +kernel) (pa_cons (pe_lc (own := [("_law_one", 3)]) (by rfl) sc_is.nd (pi_tupK K (pe_fldK K (xv 0))) (blkOk_by (N := ["_law_got_here", "_law_told", "_law_parts_here", "_law_one", "_law_two"]) (sc := defScope s_is) (by decide +kernel)) (fun _ _ _ _ _ => (pg_name (i := 3) sc_is.nd rfl (.inl rfl))) (fun _ _ _ _ _ => pts_nil) (fun _ _ _ _ _ => (pe_callB (call_isK K) (by rfl) T.m_isinstance (by decide +kernel) (pa_cons (xv 3) (pa_cons (pe_bltn (v := .ty "str") (by rfl) T.m_str (by decide +kernel) rfl) pa_nil))))) pa_nil)))))))
      (pss_one (ps_ret pe_bl))
      pss_nil)
      (pss_one (ps_ret (pe_cmpR (op_eqLK K hr.u190) (pe_call G_sorted (hr.mono (by omega)) (by rfl) T.g_sorted T.F_sorted.kp T.b_sorted .nil pass0 (pa_cons (pe_fldK K (xv 0)) pa_nil)) (pe_call G_sorted (hr.mono (by omega)) (by rfl) T.g_sorted T.F_sorted.kp T.b_sorted .nil pass0 (pa_cons (pe_dget (hu_of hr) (xv 1) pe_str (fun _ _ => rfl)) pa_nil)) (nomark _))))))), ?_⟩
    obtain ⟨dx, f, an, vs, vi, db, xs, h1, fa, han, hvs, hvi, hxs, hdb⟩ := hx.ex
    obtain ⟨g, k1, ga⟩ := hD.ex
    obtain ⟨plo, xlo, elo, hplo, hxlo⟩ := dp_tup fa.lo
    obtain rfl := dpa_strs hxlo
    obtain ⟨gln, gll⟩ := gc.l1
    have gt : (f.l c (Fs.rest an vs vi (.ref db))).lookup ("looks" : Str) = some (V.ref plo) := by rw [← elo]; exact Fs.g_looks
    refine ⟨_, _, _, _, true, rfl, .own _, .base (.ins (S.st h1) T.cl_Component T.ty_Component.1 T.ty_Component.2.1 T.ty_Component.2.2.1 T.ty_Component.2.2.2.1), T.ty_Component.2.2.2.2, fun e => (nomatch e), fun _ => ⟨x, T.C_Component, dx, _, _, rfl, S.st h1, T.cl_Component, T.na_Component_looks, gt, _, _, _, _, true, rfl, .ty _, sqT_ty (S.t hplo), kit_ty (by decide +kernel), fun e => (nomatch e), fun _ => ?_⟩⟩
    have S0 := S
    have G0s := Same.refl G
    refine ⟨x, T.C_Component, dx, _, _, rfl, S0.st (G0s _ _ h1), T.cl_Component, T.na_Component_name, Fs.g_name, D, _, rfl, Fs.dg_name (S0.st (G0s _ _ k1)), sz, fun t1 n1 => ?_⟩
    obtain ⟨G1, s1, S1, d1'⟩ := dp_mk (K := K) S0 n1 (.cons ((.str _)) (.cons ((.str _)) .nil))
    have G1s := G0s.trans s1
    refine ⟨x, T.C_Component, dx, _, _, rfl, S1.st (G1s _ _ h1), T.cl_Component, T.na_Component_takes, Fs.g_takes, D, _, rfl, Fs.dg_takes (S1.st (G1s _ _ k1)), sz, fun t2 n2 => ?_⟩
    obtain ⟨G2, s2, S2, d2'⟩ := dp_mk (K := K) S1 n2 (.cons (dp_same G1s fa.tk) (.cons (dp_same G1s ga.tk) .nil))
    have G2s := G1s.trans s2
    refine ⟨x, T.C_Component, dx, _, _, rfl, S2.st (G2s _ _ h1), T.cl_Component, T.na_Component_hears, Fs.g_hears, D, _, rfl, Fs.dg_hears (S2.st (G2s _ _ k1)), sz, fun t3 n3 => ?_⟩
    obtain ⟨G3, s3, S3, d3'⟩ := dp_mk (K := K) S2 n3 (.cons (dp_same G2s fa.he) (.cons (dp_same G2s ga.he) .nil))
    have G3s := G2s.trans s3
    refine ⟨x, T.C_Component, dx, _, _, rfl, S3.st (G3s _ _ h1), T.cl_Component, T.na_Component_cells, Fs.g_cells, D, _, rfl, Fs.dg_cells (S3.st (G3s _ _ k1)), sz, fun t4 n4 => ?_⟩
    obtain ⟨G4, s4, S4, d4'⟩ := dp_mk (K := K) S3 n4 (.cons (dp_same G3s fa.ce) (.cons (dp_same G3s ga.ce) .nil))
    have G4s := G3s.trans s4
    refine ⟨x, T.C_Component, dx, _, _, rfl, S4.st (G4s _ _ h1), T.cl_Component, T.na_Component_asks, Fs.g_asks, D, _, rfl, Fs.dg_asks (S4.st (G4s _ _ k1)), sz, fun t5 n5 => ?_⟩
    obtain ⟨G5, s5, S5, d5'⟩ := dp_mk (K := K) S4 n5 (.cons (dp_same G4s fa.ak) (.cons (dp_same G4s ga.ak) .nil))
    have G5s := G4s.trans s5
    refine ⟨x, T.C_Component, dx, _, _, rfl, S5.st (G5s _ _ h1), T.cl_Component, T.na_Component_gives, Fs.g_gives, D, _, rfl, Fs.dg_gives (S5.st (G5s _ _ k1)), sz, fun t6 n6 => ?_⟩
    obtain ⟨G6, s6, S6, d6'⟩ := dp_mk (K := K) S5 n6 (.cons (dp_same G5s fa.gi) (.cons (dp_same G5s ga.gi) .nil))
    have G6s := G5s.trans s6
    refine ⟨x, T.C_Component, dx, _, _, rfl, S6.st (G6s _ _ h1), T.cl_Component, T.na_Component_effects, Fs.g_effects, D, _, rfl, Fs.dg_effects (S6.st (G6s _ _ k1)), sz, fun t7 n7 => ?_⟩
    obtain ⟨G7, s7, S7, d7'⟩ := dp_mk (K := K) S6 n7 (.cons (dp_same G6s fa.ef) (.cons (dp_same G6s ga.ef) .nil))
    have G7s := G6s.trans s7
    refine ⟨x, T.C_Component, dx, _, _, rfl, S7.st (G7s _ _ h1), T.cl_Component, T.na_Component_deeds, Fs.g_deeds, D, _, rfl, Fs.dg_deeds (S7.st (G7s _ _ k1)), sz, fun t8 n8 => ?_⟩
    obtain ⟨G8, s8, S8, d8'⟩ := dp_mk (K := K) S7 n8 (.cons (dp_same G7s fa.de) (.cons (dp_same G7s ga.de) .nil))
    have G8s := G7s.trans s8
    refine ⟨x, T.C_Component, dx, _, _, rfl, S8.st (G8s _ _ h1), T.cl_Component, T.na_Component_island, Fs.g_island, D, _, rfl, Fs.dg_island (S8.st (G8s _ _ k1)), sz, fun t9 n9 => ?_⟩
    obtain ⟨G9, s9, S9, d9'⟩ := dp_mk (K := K) S8 n9 (.cons (dp_same G8s fa.il) (.cons (dp_same G8s ga.il) .nil))
    have G9s := G8s.trans s9
    refine ⟨x, T.C_Component, dx, _, _, rfl, S9.st (G9s _ _ h1), T.cl_Component, T.na_Component_shape, Fs.g_shape, D, _, rfl, Fs.dg_shape (S9.st (G9s _ _ k1)), sz, fun t10 n10 => ?_⟩
    obtain ⟨G10, s10, S10, d10'⟩ := dp_mk (K := K) S9 n10 (.cons (dp_same G9s fa.sh) (.cons (dp_same G9s ga.sh) .nil))
    have G10s := G9s.trans s10
    have u10 := Same.refl G10
    have u9 := s10.trans u10
    have u8 := s9.trans u9
    have u7 := s8.trans u8
    have u6 := s7.trans u7
    have u5 := s6.trans u6
    have u4 := s5.trans u5
    have u3 := s4.trans u4
    have u2 := s3.trans u3
    have u1 := s2.trans u2
    refine ⟨sz, fun l n11 => ?_⟩
    obtain ⟨G11, s11, S11, h11⟩ := Sep.mk (o := .lst [.ref t1, .ref t2, .ref t3, .ref t4, .ref t5, .ref t6, .ref t7, .ref t8, .ref t9, .ref t10]) S10 n11
    have prs : DpAll K G11 [.ref t1, .ref t2, .ref t3, .ref t4, .ref t5, .ref t6, .ref t7, .ref t8, .ref t9, .ref t10] ((partsD c).map fun d => .tuple [d, d]) := dpa_same s11 (.cons (dp_same u1 d1') (.cons (dp_same u2 d2') (.cons (dp_same u3 d3') (.cons (dp_same u4 d4') (.cons (dp_same u5 d5') (.cons (dp_same u6 d6') (.cons (dp_same u7 d7') (.cons (dp_same u8 d8') (.cons (dp_same u9 d9') (.cons d10' .nil))))))))))
    have pl := parts_pl gc c16
    have t11 := G10s.trans s11
    clear S0 S1 S2 S3 S4 S5 S6 S7 S8 S9 S10
    refine ⟨l, rfl, ⟨_, S11.l (SqL.of h11)⟩, fun D2 n2 => lc_dpL S11 n2 (fun G' H' o s' S' => S'.l (same_l s' (SqL.of h11))) prs (List.replicate 10 (.bool true)) (by rw [List.length_map]; rfl) (by rw [List.length_map]; show 10 ≤ 100000; decide) (fun i y e d G2 H2 us R he hd hxe s2 S2 hR => ?_) (fun G12 H12 us s12 S12 hw => ?_)⟩
    · rw [rep_get hd] at hR
      rw [List.getElem?_map] at he
      obtain ⟨pd, hpd, rfl⟩ := Option.map_eq_some_iff.mp he
      obtain ⟨a, ys, rfl, ha, hy⟩ := dp_tup hxe
      obtain ⟨z1, r1, rfl, hz1, hy⟩ := dpa_cons hy
      obtain ⟨z2, r2, rfl, hz2, hy⟩ := dpa_cons hy
      obtain rfl := dpa_nil hy
      exact ⟨a, _, rfl, S2.t ha, rfl, _, _, rfl, _, _, rfl, rfl, rfl, G2, _, z1, z2, pd, rfl, S2, hz1, hz2, pl pd (List.mem_of_getElem? hpd), fun G3 H3 s3 S3 => hR _ G3 H3 s3 S3 (.bl true)⟩
    rw [dpa_yes hw] at S12
    refine ⟨D2, List.replicate 10 true, rfl, SqL.of S12.hd, ?_⟩
    rw [all_yes]
    refine ⟨ff, fun _ => ?_⟩
    have S12 := S12.drop
    have t12 := t11.trans s12
    refine ⟨x, T.C_Component, dx, _, _, rfl, S12.st (t12 _ _ h1), T.cl_Component, T.na_Component_looks, gt, plo, rfl, ⟨_, S12.t (same_t t12 hplo)⟩, fun D3 n3 => lc_dpT S12 n3 (same_t t12 hplo) (dpa_same t12 hxlo) (List.replicate c.looks.length (.bool true)) (by simp) ?_ (fun i y e d G2 H2 us R he hd hxe s2 S2 hR => ?_) (fun G13 H13 us s13 S13 hw => ?_)⟩
    · rw [List.length_map]
      have := nodup_sub gln gll
      have := gc.t2.1
      have := gc.h2.1
      simp only [Cp.handed, List.length_append, List.length_map] at *
      omega
    · rw [rep_get hd] at hR
      rw [List.getElem?_map] at he
      obtain ⟨z, hz, rfl⟩ := Option.map_eq_some_iff.mp he
      obtain rfl := dp_str hxe
      exact ⟨rfl, _, _, _, _, true, rfl, .ty _, .base (.str _), kit_ty (by decide +kernel), hR _ G2 _ (Same.refl _) S2 (.bl true)⟩
    rw [dpa_yes hw] at S13
    refine ⟨D3, List.replicate c.looks.length true, rfl, SqL.of S13.hd, ?_⟩
    rw [all_yes]
    refine ⟨ff, fun _ => ?_⟩
    have S13 := S13.drop
    have t13 := t12.trans s13
    have lkl : c.looks.length ≤ 1000 := by
      have h1 := nodup_sub gln gll
      have h2 := gc.t2.1
      have h3 := gc.h2.1
      simp only [Cp.handed, List.length_append, List.length_map] at h1
      omega
    refine ⟨x, T.C_Component, dx, _, _, rfl, S13.st (t13 _ _ h1), T.cl_Component, T.na_Component_looks, Fs.g_looks, G13, M, f.lo, c.looks, rfl, S13, dp_same t13 fa.lo, lkl, fun l1 G14 H14 s14 hl1 S14 => ?_⟩
    have t14 := t13.trans s14
    refine ⟨D, _, rfl, Fs.dg_looks (S14.st (t14 _ _ k1)), G14, M, g.lo, c.looks, rfl, S14, dp_same t14 ga.lo, lkl, fun l2 G15 H15 s15 hl2 S15 => ?_⟩
    have ft : Fit (((srtS c.looks).map PyData.str).length * (8 + 1)) (0 + 1) (.list ((srtS c.looks).map PyData.str)) := Fit.lsts fun d hd => by
      obtain ⟨z, hz, rfl⟩ := List.mem_map.mp hd
      refine Fit.name (gc.lt z ?_)
      rcases foldS_mem c.looks [] z hz with h | h
      · exact nomatch h
      · exact List.mem_append_left _ (List.mem_append_left _ (gll z h))
    refine ⟨.list ((srtS c.looks).map PyData.str), .list ((srtS c.looks).map PyData.str), .lst (S15.l (SqL.of (s15 _ _ hl1))) (dpa_of_strs _), .lst (S15.l (SqL.of hl2)) (dpa_of_strs _), ft.cl, ft.cl, Nat.le_trans ft.dp (by decide), ?_⟩
    show Q (.bl (PyData.eqv _ _)) H15
    rw [ft.self]
    exact q G15 H15 (t14.trans s15) S15

end
end K57
set_option Elab.async false
set_option linter.all false
set_option maxRecDepth 100000
set_option maxHeartbeats 4000000
namespace K57
open PySem PySem.Spec PyProof.Rows L2 XL
section
variable {P : Program} {w : World} {K : PySem.W.Frag} {mg : Str → Option Value} {base : Heap}
/-! ### _law_got -/
theorem Sep.tail {G H : Hp} {M : List (Addr × HO)} : ∀ {N : List (Addr × HO)}, Sep G (N ++ M) H → Sep G M H
  | [], S => S
  | _ :: _, S => Sep.tail (Sep.drop S)
def spGot (K : PySem.W.Frag) (C : Addr) : Sp := fun vs H Q _ => ∃ (G : Hp) (M : List (Addr × HO)) (x y : Addr) (c ch : Cp), vs = [.ref x, .ref y] ∧ Sep G M H ∧ CpAt K C G x c ∧ CpAt K C G y ch ∧ GdC c ∧ GdC ch ∧ cnt c.shape ≤ 16 ∧
  (cnt (stubC c ch).shape ≤ 16 → ∀ (z : Addr) (G' H' : Hp), Same G G' → CpAt K C G' z (stubC c ch) → Sep G' M H' → Q (.ref z) H') ∧
  (16 < cnt (stubC c ch).shape → ∀ (v : V) (G' H' : Hp), Same G G' → Dp K G' v (.tuple [.str "BadComponent", .str "shape"]) → Sep G' M H' → Q v H')
theorem ok_got (T : Top K mg w) (pf : PySem.XExc.PF P T.x_file) {k : Nat} (G_stub : FnOk P w K mg base (L2.CX P w) k T.a_stub T.d_stub ["component", "child"] (spStub K T.C_Component T.C_BadComponent)) : FnOk P w K mg base CX0 (k + 1) T.a_got T.d_got ["_law_parent_here", "_law_child_here"] (spGot K T.C_Component) := by
  refine T.F_got.ok sc_got (fun vs H Q E h => ?_) (fun cdv A outer s H vs Q E hr h => ?_)
  · obtain ⟨G, M, x, y, c, ch, rfl, _⟩ := h
    rfl
  · obtain ⟨G, M, x, y, c, ch, rfl, S, hx, hy, gc, gh, c16, q, qx⟩ := h
    refine ⟨_, (pss_one (ps_try_manyMx (Wout := fun _ _ _ _ => False) rfl rfl sc_got.nd takes0
      (fun W pn xe tk _ => (pss_one (ps_ret (pe_callS G_stub (hr.mono (by omega)) (by rfl) T.g_stub T.F_stub.kp T.b_stub (fun σ => passAt tk σ) (pa_cons (xv 0) (pa_cons (xv 1) pa_nil))))))
      (HdsMx.cons (i := 2) rfl rfl ⟨rfl, by decide, Or.inl T.g_BadComponent⟩ (fun a oe cls d pn hz hf => (pss_one (ps_ret (pe_tup (pa_cons pe_str (pa_cons (pe_xf T.xf_BadComponent (T.x_BadComponent P pf).noN hz hf (xv 2)) pa_nil))))))
      (HdsMx.consN ⟨rfl, by decide, Or.inl T.g_ScreenError⟩ (fun a oe cls d pn hz hf => (pss_one (ps_ret (pe_tup (pa_cons pe_str (pa_cons pe_non pa_nil))))))
      HdsMx.nil)))), ?_⟩
    refine ⟨G, M, x, y, c, ch, rfl, S, hx, hy, gc, gh, c16, q, fun big G' H' N dd s' S' nd => ?_⟩
    refine ⟨true, T.em_BadComponent_BadComponent, fun _ => fun a na => ?_, fun e => (nomatch e)⟩
    have S2 := S'.new (o := .xd [("part", .str "shape")]) nd
    have hxd := S2.hd
    have lk1 : List.lookup (Str.ofString "part") [(Str.ofString "part", V.str "shape")] = some (.str "shape") := by simp [List.lookup]
    refine ⟨rfl, rfl, dd, _, _, rfl, hxd, lk1, sz, fun t nt => ?_⟩
    obtain ⟨G5, s5, S5, h5⟩ := Sep.mk (o := .xd [("part", .str "shape")]) (Sep.tail S') nd
    obtain ⟨G7, s7, S7, h7⟩ := dp_mk (K := K) (ds := [.str "BadComponent", .str "shape"]) S5 nt (.cons (.str _) (.cons (.str _) .nil))
    exact qx big _ G7 _ ((s'.trans s5).trans s7) h7 S7

end
end K57
set_option Elab.async false
set_option linter.all false
set_option maxRecDepth 100000
set_option maxHeartbeats 4000000
namespace K57
open PySem PySem.Spec PyProof.Rows L2 XL
section
variable {P : Program} {w : World} {K : PySem.W.Frag} {mg : Str → Option Value} {base : Heap}
/-! ### draws: a name near the spare ones -/
theorem sp52_item : ∀ z ∈ sp52, z ≠ "item" := by decide +kernel
def spNear : Sp := fun vs H Q _ => ∃ (G : Hp) (M : List (Addr × HO)) (b : Addr) (o : HO) (l : Addr) (zs : List Str), vs = [.ref b, .ref l] ∧ Sep G ((b, o) :: (l, .lst (zs.map V.str)) :: M) H ∧ Bag G o ∧ (∀ z ∈ zs, Lt 1 8 z) ∧ zs.length ≤ 20 ∧
  ∀ (z : Str) (o' : HO) (G' H' : Hp), Same G G' → Lt 1 8 z → z ∉ zs → z ≠ "item" → z ≠ "at" → Bag G' o' → Sep G' ((b, o') :: (l, .lst ((zs ++ [z]).map V.str)) :: M) H' → Q (.str z) H'
theorem ok_near (T : Top K mg w) {k : Nat} (G_pick : FnOk P w K mg base CX0 k T.a_pick T.d_pick ["_law_bag_here", "_law_many"] spPick) (G_choice : FnOk P w K mg base CX0 k T.a_choice T.d_choice ["_law_bag_here", "_law_things"] (spChoice K)) (G_spares : FnOk P w K mg base CX0 k T.a_spares T.d_spares ["_law_barred"] (spLSp K))
    (G_new_name : FnOk P w K mg base CX0 k T.a_new_name T.d_new_name ["_law_bag_here", "_law_used"] spNew) : FnOk P w K mg base CX0 (k + 1) T.a_near T.d_near ["_law_bag_here", "_law_used"] spNear := by
  refine T.F_near.ok sc_near (fun vs H Q E h => ?_) (fun cdv A outer s H vs Q E hr h => ?_)
  · obtain ⟨G, M, b, o, l, zs, rfl, _⟩ := h
    rfl
  · obtain ⟨G, M, b, o, l, zs, rfl, S, B, lt, zl, q⟩ := h
    refine ⟨_, (pss_cons (ps_set (i := 2) sc_near.nd rfl (.inl rfl) (pe_call G_pick (hr.mono (by omega)) (by rfl) T.g_pick T.F_pick.kp T.b_pick .nil pass0 (pa_cons (xv 0) (pa_cons pe_int pa_nil))))
      (pss_cons (xs_if (xt_cmp (op_eqLK K hr.u190) (xv 2) pe_int (nomark _))
      (pss_one (ps_ret (pe_call G_new_name (hr.mono (by omega)) (by rfl) T.g_new_name T.F_new_name.kp T.b_new_name .nil pass0 (pa_cons (xv 0) (pa_cons (xv 1) pa_nil)))))
      pss_nil)
      (pss_cons (ps_set (i := 3) sc_near.nd rfl (.inl rfl) (pe_call G_choice (hr.mono (by omega)) (by rfl) T.g_choice T.F_choice.kp T.b_choice .nil pass0 (pa_cons (xv 0) (pa_cons (pe_slice (sl_listK K) (pe_call G_spares (hr.mono (by omega)) (by rfl) T.g_spares T.F_spares.kp T.b_spares .nil pass0 (pa_cons (pe_op op_addY (xv 1) (pe_lst (pa_cons pe_str pa_nil))) pa_nil)) po_none (po_some (pe_ix (ix_k K) (pe_lst (pa_cons pe_int (pa_cons pe_int (pa_cons pe_int pa_nil)))) (pe_op op_subY (xv 2) pe_int) (fun _ _ => rfl)))) pa_nil))))
      (pss_cons (ps_expr (pe_bmK K PySem.F.plainAttrs_list PySem.F.slot_list_append PySem.F.type_list_append mt_append (xv 1) (pa_cons (xv 3) pa_nil)))
      (pss_one (ps_ret (xv 3))))))), ?_⟩
    refine ⟨G, _, b, o, 4, rfl, S, B, by decide, by decide, fun w1 o1 H1 w0 w4 B1 S1 => ⟨fun e => ?_, fun e => ?_⟩⟩
    · exact ⟨G, M, b, o1, l, zs, rfl, S1, B1, lt, by omega, fun z o2 H2 h1 h2 h3 h4 B2 S2 => q z o2 G H2 (Same.refl _) h1 h2 h3 h4 B2 S2⟩
    · have w1n : w1 ≠ 0 := of_decide_eq_false e
      refine ⟨sz, fun t2 m2 => ?_⟩
      obtain ⟨G2, s2, S2, h2⟩ := Sep.mk (o := .lst [.str "at"]) S1 m2
      refine ⟨l, t2, _, _, rfl, rfl, S2.sw.hd, S2.st h2, by rw [List.length_map]; exact small (by simp only [List.length_cons, List.length_nil]; omega), fun t3 m3 => ?_⟩
      have e3 : zs.map V.str ++ [V.str "at"] = (zs ++ (["at"] : List Str)).map V.str := by rw [List.map_append]; rfl
      rw [e3]
      obtain ⟨G3, s3, S3, h3⟩ := Sep.mk (o := .lst ((zs ++ (["at"] : List Str)).map V.str)) S2 m3
      refine ⟨G3, _, t3, zs ++ (["at"] : List Str), rfl, S3, SqL.of h3, fun l4 G4 H4 s4 S4 hl4 => ?_⟩
      have sl := filt_len (bs := zs ++ (["at"] : List Str)) sp52_nd
      rw [sp52_len, List.length_append] at sl
      simp only [List.length_cons, List.length_nil] at sl
      have sl : 31 ≤ (spAll (zs ++ (["at"] : List Str))).length := by unfold spAll; omega
      refine ⟨sz, fun t5 m5 => ?_⟩
      obtain ⟨G5, s5, S5, h5⟩ := Sep.mk (o := .lst [.int 1, .int 3, .int 9]) S4 m5
      have t15 := s2.trans (s3.trans (s4.trans s5))
      have hn : ∃ n : Nat, 1 ≤ n ∧ n ≤ 9 ∧ atI [V.int 1, V.int 3, V.int 9] (w1 - 1) = some (V.int (n : Nat)) := by
        have h : w1 = 1 ∨ w1 = 2 ∨ w1 = 3 := by omega
        rcases h with rfl | rfl | rfl
        · exact ⟨1, by decide, by decide, rfl⟩
        · exact ⟨3, by decide, by decide, rfl⟩
        · exact ⟨9, by decide, by decide, rfl⟩
      obtain ⟨n, n1, n9, hat⟩ := hn
      refine ⟨_, _, .inl (SqL.of (S5.st h5)), hat, _, rfl, l4, _, rfl, S5.l (same_l s5 (SqL.of hl4)), fun t6 m6 => ?_⟩
      have ec : cutV ((spAll (zs ++ (["at"] : List Str))).map V.str) none (some ((n : Nat) : Int)) = ((spAll (zs ++ (["at"] : List Str))).take n).map V.str := by rw [cutK_to _ _ (by rw [List.length_map]; omega), List.map_take]
      rw [ec]
      obtain ⟨G6, s6, S6, h6⟩ := Sep.mk (o := .lst (((spAll (zs ++ (["at"] : List Str))).take n).map V.str)) S5 m6
      have t16 := t15.trans s6
      refine ⟨G6, _, b, o1, t6, _, rfl, S6, B1.same t16, SqL.of h6, by rw [List.length_map, List.length_take]; omega, by rw [List.length_map, List.length_take]; omega, fun v o7 H7 hv B7 S7 => ?_⟩
      obtain ⟨z, hz, rfl⟩ := List.mem_map.mp hv
      have hz1 := List.mem_filter.mp (List.mem_of_mem_take hz)
      have hz2 : z ∉ zs ++ (["at"] : List Str) := by simpa using hz1.2
      refine ⟨.inl ⟨rfl, _, SqL.of S7.sw.hd⟩, l, _, _, rfl, rfl, S7.sw.hd, smallL (by rw [List.length_map]; omega), ?_⟩
      have S8 := S7.sw.set (o' := .lst (zs.map V.str ++ [V.str z]))
      have e8 : zs.map V.str ++ [V.str z] = (zs ++ [z]).map V.str := by rw [List.map_append]; rfl
      rw [e8] at S8 ⊢
      exact q z o7 G6 _ t16 (sp52_lt z hz1.1) (fun h => hz2 (List.mem_append_left _ h)) (sp52_item z hz1.1) (fun h => hz2 (by rw [h]; simp)) B7 S8.sw
/-! ### rows of names with sizes -/
def dR (tr : Bool) (r : Str × Int × Int) : PyData := if tr then d3 r else d2 (r.1, r.2.1)
def spTR (K : PySem.W.Frag) : Sp := fun vs H Q _ => ∃ (G : Hp) (M : List (Addr × HO)) (b : Addr) (o : HO) (l : Addr) (zs : List Str) (m : Nat) (tr : Bool), vs = [.ref b, .ref l, .int (m : Nat), .bl tr] ∧ Sep G ((b, o) :: (l, .lst (zs.map V.str)) :: M) H ∧ Bag G o ∧ (∀ z ∈ zs, Lt 1 8 z) ∧ zs.length + m ≤ 20 ∧
  ∀ (v : V) (rs : List (Str × Int × Int)) (o' : HO) (G' H' : Hp), Same G G' → Dp K G' v (.tuple (rs.map (dR tr))) → rs.length = m → Frs (rs.map (·.1)) zs → (∀ r ∈ rs, 1 ≤ r.2.1 ∧ r.2.1 ≤ 4 ∧ 0 ≤ r.2.2 ∧ r.2.2 < r.2.1) → Bag G' o' → Sep G' ((b, o') :: (l, .lst ((zs ++ rs.map (·.1)).map V.str)) :: M) H' → Q v H'
theorem ok_told_rows (T : Top K mg w) {k : Nat} (G_pick : FnOk P w K mg base CX0 k T.a_pick T.d_pick ["_law_bag_here", "_law_many"] spPick) (G_near : FnOk P w K mg base CX0 k T.a_near T.d_near ["_law_bag_here", "_law_used"] spNear) : FnOk P w K mg base CX0 (k + 1) T.a_told_rows T.d_told_rows ["_law_bag_here", "_law_used", "_law_many", "_law_triple"] (spTR K) := by
  refine T.F_told_rows.ok sc_told_rows (fun vs H Q E h => ?_) (fun cdv A outer s H vs Q E hr h => ?_)
  · obtain ⟨G, M, b, o, l, zs, m, tr, rfl, _⟩ := h
    rfl
  · obtain ⟨G, M, b, o, l, zs, m, tr, rfl, S, B, lt, zl, q⟩ := h
    refine ⟨_, (pss_cons (ps_set (i := 4) sc_told_rows.nd rfl (.inl rfl) (pe_lst pa_nil))
      (pss_cons (ps_for PassesOwn.never rfl (pi_range1 (by rfl) T.m_range (pa_cons (xv 2) pa_nil)) (pg_name (i := 5) sc_told_rows.nd rfl (.inl rfl))
      (pss_cons (ps_set (i := 6) sc_told_rows.nd rfl (.inl rfl) (pe_op op_addY pe_int (pe_call G_pick (hr.mono (by omega)) (by rfl) T.g_pick T.F_pick.kp T.b_pick .nil pass0 (pa_cons (xv 0) (pa_cons pe_int pa_nil)))))
      (pss_cons (ps_set (i := 7) sc_told_rows.nd rfl (.inl rfl) (pe_call G_near (hr.mono (by omega)) (by rfl) T.g_near T.F_near.kp T.b_near .nil pass0 (pa_cons (xv 0) (pa_cons (xv 1) pa_nil))))
      (pss_one (ps_expr (pe_bmK K PySem.F.plainAttrs_list PySem.F.slot_list_append PySem.F.type_list_append mt_append (xv 4) (pa_cons (xe_if (xt_truK K (xv 3)) (pe_tup (pa_cons (xv 7) (pa_cons (xv 6) (pa_cons (pe_call G_pick (hr.mono (by omega)) (by rfl) T.g_pick T.F_pick.kp T.b_pick .nil pass0 (pa_cons (xv 0) (pa_cons (xv 6) pa_nil))) pa_nil)))) (pe_tup (pa_cons (xv 7) (pa_cons (xv 6) pa_nil)))) pa_nil)))))))
      (pss_one (ps_ret (pe_callTy (call_tupleK K) (by rfl) T.m_tuple (by decide +kernel) (pa_cons (xv 4) pa_nil)))))), ?_⟩
    refine ⟨sz, fun L nL => ?_⟩
    have S1 := S.new (o := .lst []) nL
    have S2 := S1.perm (List.perm_append_comm_assoc [_] [_, _] _)
    refine ⟨_, rfl, by omega, by omega, for_range (lo := 0) (n := ((m : Nat) : Int).toNat) (fun i σ H' => ∃ (y5 y6 y7 : Option V) (o' : HO) (rs : List (Str × Int × Int)) (us : List V) (G' : Hp), σ = [some (.ref b), some (.ref l), some (.int (m : Nat)), some (.bl tr), some (.ref L), y5, y6, y7] ∧ Same G G' ∧ Bag G' o' ∧
      Sep G' ((b, o') :: (l, .lst ((zs ++ rs.map (·.1)).map V.str)) :: (L, .lst us) :: M) H' ∧ DpAll K G' us (rs.map (dR tr)) ∧ rs.length = i ∧ Frs (rs.map (·.1)) zs ∧ (∀ r ∈ rs, 1 ≤ r.2.1 ∧ r.2.1 ≤ 4 ∧ 0 ≤ r.2.2 ∧ r.2.2 < r.2.1)) ?_ (fun i σ H' hi h => ?_) (fun σ H' h => ?_)⟩
    · exact ⟨_, _, _, o, [], [], G, rfl, Same.refl _, B, by rw [List.map_nil, List.append_nil]; exact S2, .nil, rfl, ⟨fun z hz => (nomatch hz), fun z hz => (nomatch hz), List.nodup_nil⟩, fun r hr => (nomatch hr)⟩
    · obtain ⟨y5, y6, y7, o', rs, us, G', rfl, s', B', S', du, rl, fr, hb⟩ := h
      refine ⟨G', _, b, o', 4, rfl, S', B', by decide, by decide, fun r o2 H2 r0 r1 B2 S3 => ?_⟩
      refine ⟨G', _, b, o2, l, zs ++ rs.map (·.1), rfl, S3, B2, fun z hz => ?_, by rw [List.length_append, List.length_map]; omega, fun z o3 G3 H3 s3 hz1 hz2 hz3 hz4 B3 S4 => ?_⟩
      · rcases List.mem_append.mp hz with h | h
        · exact lt z h
        · exact fr.lt z h
      have S5 := S4.perm (List.perm_append_comm_assoc [_, _] [_] _)
      have du3 := dpa_same s3 du
      have ul := dpa_len du3
      rw [List.length_map] at ul
      have frz : ∀ st : Int, Frs ((rs ++ [(z, 1 + r, st)]).map (·.1)) zs := fun st => by
        rw [List.map_append]
        refine ⟨fun y hy => ?_, fun y hy => ?_, ?_⟩
        · rcases List.mem_append.mp hy with h | h
          · exact fr.lt y h
          · rw [List.mem_singleton.mp h]; exact hz1
        · rcases List.mem_append.mp hy with h | h
          · exact fr.no y h
          · rw [List.mem_singleton.mp h]; exact ⟨hz3, hz4, fun h => hz2 (List.mem_append_left _ h)⟩
        · rw [List.nodup_append]
          exact ⟨fr.nd, nd1 _, fun a ha c hc e => hz2 (List.mem_append_right _ (by have hc : c = z := List.mem_singleton.mp hc; rw [← hc, ← e]; exact ha))⟩
      have bz : ∀ st : Int, 0 ≤ st → st < 1 + r → ∀ q ∈ rs ++ [(z, 1 + r, st)], 1 ≤ q.2.1 ∧ q.2.1 ≤ 4 ∧ 0 ≤ q.2.2 ∧ q.2.2 < q.2.1 := fun st h0 h1 q hq => by
        rcases List.mem_append.mp hq with h | h
        · exact hb q h
        · rw [List.mem_singleton.mp h]
          exact ⟨by show 1 ≤ 1 + r; omega, by show 1 + r ≤ 4; omega, h0, h1⟩
      have ez : ∀ st : Int, (zs ++ rs.map (·.1)) ++ [z] = zs ++ (rs ++ [(z, 1 + r, st)]).map (·.1) := fun st => by rw [List.map_append, List.append_assoc]; rfl
      refine ⟨.inl ⟨rfl, _, SqL.of S5.hd⟩, ?_⟩
      cases tr with
      | true =>
        refine ⟨fun _ => ?_, tt⟩
        refine ⟨G3, _, b, o3, 1 + r, rfl, S4, B3, by omega, by omega, fun st o4 H4 st0 st1 B4 S6 => ⟨sz, fun t nt => ?_⟩⟩
        obtain ⟨G7, s7, S7, d7⟩ := dp_mk (K := K) (ds := [.str z, .int (1 + r), .int st]) S6 nt (.cons (.str _) (.cons (.int _) (.cons (.int _) .nil)))
        have S8 := S7.perm (List.perm_append_comm_assoc [_, _] [_] _)
        refine ⟨L, _, _, rfl, rfl, S8.hd, smallL (by omega), ?_⟩
        have S9 := (S8.set (o' := .lst (us ++ [.ref t]))).perm (List.perm_append_comm_assoc [_] [_, _] _)
        refine ⟨_, _, _, o4, rs ++ [(z, 1 + r, st)], us ++ [.ref t], G7, rfl, s'.trans (s3.trans s7), B4.same s7, by rw [← ez]; exact S9, ?_, by rw [List.length_append, rl]; rfl, frz st, bz st st0 st1⟩
        rw [List.map_append]
        exact dpa_app (dpa_same s7 du3) (dpa_one d7)
      | false =>
        refine ⟨ff, fun _ => ⟨sz, fun t nt => ?_⟩⟩
        obtain ⟨G7, s7, S7, d7⟩ := dp_mk (K := K) (ds := [.str z, .int (1 + r)]) S5 nt (.cons (.str _) (.cons (.int _) .nil))
        refine ⟨L, _, _, rfl, rfl, S7.hd, smallL (by omega), ?_⟩
        have S9 := (S7.set (o' := .lst (us ++ [.ref t]))).perm (List.perm_append_comm_assoc [_] [_, _] _)
        refine ⟨_, _, _, o3, rs ++ [(z, 1 + r, 0)], us ++ [.ref t], G7, rfl, s'.trans (s3.trans s7), B3.same s7, by rw [← ez]; exact S9, ?_, by rw [List.length_append, rl]; rfl, frz 0, bz 0 (by omega) (by omega)⟩
        rw [List.map_append]
        exact dpa_app (dpa_same s7 du3) (dpa_one d7)
    · obtain ⟨y5, y6, y7, o', rs, us, G', rfl, s', B', S', du, rl, fr, hb⟩ := h
      have S5 := S'.perm (List.perm_append_comm_assoc [_, _] [_] _)
      refine ⟨L, us, rfl, .inl ⟨SqL.of S5.hd, fun t nt => ?_⟩⟩
      obtain ⟨G7, s7, S7, d7⟩ := dp_mk (K := K) S5 nt du
      exact q _ rs o' G7 _ (s'.trans s7) d7 (by omega) fr hb (B'.same s7) S7.drop

end
end K57
set_option Elab.async false
set_option linter.all false
set_option maxRecDepth 100000
set_option maxHeartbeats 4000000
namespace K57
open PySem PySem.Spec PyProof.Rows L2 XL
section
variable {P : Program} {w : World} {K : PySem.W.Frag} {mg : Str → Option Value} {base : Heap}
/-! ### draws: deeds, some of a list -/
def spTurned (K : PySem.W.Frag) : Sp := fun vs H Q _ => ∃ (G : Hp) (M : List (Addr × HO)) (b : Addr) (o : HO) (l : Addr) (zs : List Str) (cell : Str) (rl : Addr) (rn : List Str), vs = [.ref b, .ref l, .str cell, .ref rl] ∧ Sep G ((b, o) :: (l, .lst (zs.map V.str)) :: M) H ∧ Bag G o ∧ (∀ z ∈ zs, Lt 1 8 z) ∧ zs.length ≤ 20 ∧
  G rl = some (.lst (rn.map V.str)) ∧ rn.length ≤ 100 ∧ cell ∈ rn ∧
  ∀ (v : V) (z : Str) (f : Gm) (fl : Bool) (o' : HO) (G' H' : Hp), Same G G' → Dp K G' v (dDeed (z, [(cell, f)], fl)) → Lt 1 8 z → z ∉ zs → GdF rn f → Bag G' o' → Sep G' ((b, o') :: (l, .lst ((zs ++ [z]).map V.str)) :: M) H' → Q v H'
theorem ok_turned (T : Top K mg w) {k : Nat} (G_pick : FnOk P w K mg base CX0 k T.a_pick T.d_pick ["_law_bag_here", "_law_many"] spPick) (G_near : FnOk P w K mg base CX0 k T.a_near T.d_near ["_law_bag_here", "_law_used"] spNear) (G_form : FnOk P w K mg base CX0 k T.a_form T.d_form ["_law_bag_here", "_law_readable", "_law_levels"] (spForm K 2)) : FnOk P w K mg base CX0 (k + 1) T.a_turned T.d_turned ["_law_bag_here", "_law_words_here", "_law_cell", "_law_readable"] (spTurned K) := by
  refine T.F_turned.ok sc_turned (fun vs H Q E h => ?_) (fun cdv A outer s H vs Q E hr h => ?_)
  · obtain ⟨G, M, b, o, l, zs, cell, rl, rn, rfl, _⟩ := h
    rfl
  · obtain ⟨G, M, b, o, l, zs, cell, rl, rn, rfl, S, B, lt, zl, hrl, rl100, hcell, q⟩ := h
    refine ⟨_, (pss_cons (ps_set (i := 4) sc_turned.nd rfl (.inl rfl) (xe_if (xt_cmp (op_eqLK K hr.u190) (pe_call G_pick (hr.mono (by omega)) (by rfl) T.g_pick T.F_pick.kp T.b_pick .nil pass0 (pa_cons (xv 0) (pa_cons pe_int pa_nil))) pe_int (nomark _)) (pe_tup (pa_cons pe_str (pa_cons (pe_tup (pa_cons pe_str (pa_cons (xv 2) pa_nil))) (pa_cons (pe_tup (pa_cons pe_str (pa_cons pe_int pa_nil))) pa_nil)))) (pe_call G_form (hr.mono (by omega)) (by rfl) T.g_form T.F_form.kp T.b_form .nil pass0 (pa_cons (xv 0) (pa_cons (xv 3) (pa_cons pe_int pa_nil))))))
      (pss_one (ps_ret (pe_tup (pa_cons (pe_call G_near (hr.mono (by omega)) (by rfl) T.g_near T.F_near.kp T.b_near .nil pass0 (pa_cons (xv 0) (pa_cons (xv 1) pa_nil))) (pa_cons (pe_tup (pa_cons (pe_tup (pa_cons (xv 2) (pa_cons (xv 4) pa_nil))) pa_nil)) (pa_cons (pe_cmpR (op_eqLK K hr.u190) (pe_call G_pick (hr.mono (by omega)) (by rfl) T.g_pick T.F_pick.kp T.b_pick .nil pass0 (pa_cons (xv 0) (pa_cons pe_int pa_nil))) pe_int (nomark _)) pa_nil))))))), ?_⟩
    have fin : ∀ (v4 : V) (f : Gm) (o1 : HO) (G1 H1 : Hp), Same G G1 → Dp K G1 v4 f.dat → GdF rn f → Bag G1 o1 → Sep G1 ((b, o1) :: (l, .lst (zs.map V.str)) :: M) H1 → tRet (tTup (tCons (tCall spNear [] E0 (tCons (xVar 0) (tCons (xVar 1) tNil))) (tCons (tTup (tCons (tTup (tCons (xVar 2) (tCons (xVar 4) tNil))) tNil)) (tCons (tOp (yEqL K) (tCall spPick [] E0 (tCons (xVar 0) (tCons (tC (V.int 2)) tNil))) (tC (V.int 0))) tNil)))) { nx := fun _ H' => Q .non H', rt := Q } [some (.ref b), some (.ref l), some (.str cell), some (.ref rl), some v4] H1 := fun v4 f o1 G1 H1 s1 hv hf B1 S1 => by
      refine ⟨G1, M, b, o1, l, zs, rfl, S1, B1, lt, zl, fun z o2 G2 H2 s2 z1 z2 z3 z4 B2 S2 => ⟨sz, fun t1 m1 => ⟨sz, fun t2 m2 => ?_⟩⟩⟩
      obtain ⟨G3, s3, S3, d3'⟩ := dp_mk (K := K) S2 m1 (.cons (.str cell) (.cons (dp_same s2 hv) .nil))
      obtain ⟨G4, s4, S4, d4⟩ := dp_mk (K := K) S3 m2 (.cons d3' .nil)
      refine ⟨G4, _, b, o2, 2, rfl, S4, B2.same (s3.trans s4), by decide, by decide, fun r o5 H5 r0 r1 B5 S5 => ⟨sz, fun t3 m3 => ?_⟩⟩
      obtain ⟨G6, s6, S6, d6⟩ := dp_mk (K := K) S5 m3 (.cons (.str z) (.cons d4 (.cons (.bl (decide (r = 0))) .nil)))
      exact q _ z f (decide (r = 0)) o5 G6 _ (s1.trans (s2.trans (s3.trans (s4.trans s6)))) d6 z1 z2 hf (B5.same s6) S6
    refine ⟨G, _, b, o, 2, rfl, S, B, by decide, by decide, fun w1 o1 H1 w0 w2 B1 S1 => ⟨fun e => ?_, fun e => ?_⟩⟩
    · refine ⟨sz, fun t1 m1 => ⟨sz, fun t2 m2 => ⟨sz, fun t3 m3 => ?_⟩⟩⟩
      obtain ⟨G2, s2, S2, d2'⟩ := dp_mk (K := K) (ds := [.str "get", .str cell]) S1 m1 (.cons (.str _) (.cons (.str _) .nil))
      obtain ⟨G3, s3, S3, d3'⟩ := dp_mk (K := K) (ds := [.str "is", .int 1]) S2 m2 (.cons (.str _) (.cons (.int _) .nil))
      obtain ⟨G4, s4, S4, d4⟩ := dp_mk (K := K) (ds := [.str "sum", (Gm.get cell).dat, (Gm.is 1).dat]) S3 m3 (.cons (.str _) (.cons (dp_same s3 d2') (.cons d3' .nil)))
      exact fin _ (oneG cell) o1 G4 _ (s2.trans (s3.trans s4)) d4 ⟨⟨hcell, by decide, by decide⟩, by show 2 ≤ 5; decide⟩ (B1.same (s2.trans (s3.trans s4))) S4
    · exact ⟨G, _, b, o1, rl, rn, 2, rfl, S1, B1, hrl, rl100, by decide, by decide, fun v f o2 G2 H2 s2 hv fo fd B2 S2 => fin v f o2 G2 H2 s2 (gm_dp hv) ⟨fo, by omega⟩ B2 S2⟩
def spSome (K : PySem.W.Frag) : Sp := fun vs H Q _ => ∃ (G : Hp) (M : List (Addr × HO)) (b : Addr) (o : HO) (l : Addr) (xs : List Str), vs = [.ref b, .ref l] ∧ Sep G ((b, o) :: M) H ∧ Bag G o ∧ SqL K G l (xs.map V.str) ∧ xs.length ≤ 1000 ∧
  ∀ (r : Addr) (ys : List Str) (o' : HO) (G' H' : Hp), Same G G' → G' r = some (.lst (ys.map V.str)) → ys.Sublist xs → Bag G' o' → Sep G' ((b, o') :: M) H' → Q (.ref r) H'
theorem ok_some (T : Top K mg w) {k : Nat} (G_pick : FnOk P w K mg base CX0 k T.a_pick T.d_pick ["_law_bag_here", "_law_many"] spPick) : FnOk P w K mg base CX0 (k + 1) T.a_some T.d_some ["_law_bag_here", "_law_things"] (spSome K) := by
  refine T.F_some.ok sc_some (fun vs H Q E h => ?_) (fun cdv A outer s H vs Q E hr h => ?_)
  · obtain ⟨G, M, b, o, l, xs, rfl, _⟩ := h
    rfl
  · obtain ⟨G, M, b, o, l, xs, rfl, S, B, hl, xl, q⟩ := h
    refine ⟨_, (pss_one (ps_ret (pe_lc (own := [("_law_thing", 2)]) (by rfl) sc_some.nd (pi_listK K (xv 1)) (blkOk_by (N := ["_law_bag_here", "_law_things", "_law_thing"]) (sc := defScope s_some) (by decide +kernel)) (fun _ _ _ _ _ => (pg_name (i := 2) sc_some.nd rfl (.inl rfl))) (fun _ _ _ _ _ => (pts_one (xt_cmp (op_eqLK K hr.u190) (pe_call G_pick (hr.mono (by omega)) (by rfl) T.g_pick T.F_pick.kp T.b_pick .nil pass0 (pa_cons (xv 0) (pa_cons pe_int pa_nil))) pe_int (nomark _)))) (fun _ _ _ _ _ => (xv 2))))), ?_⟩
    refine ⟨l, rfl, ⟨_, S.l hl⟩, fun D nD => lc_it (walk_list (xs := xs.map V.str)) (fun i H' => ∃ (o' : HO) (ys : List Str), i ≤ xs.length ∧ ys.Sublist (xs.take i) ∧ Bag G o' ∧ Sep G ((D, .lst (ys.map V.str)) :: (b, o') :: M) H') ⟨o, [], Nat.zero_le _, .slnil, B, S.new nD⟩ (fun i H' _ h => ?_) (fun i y H' H'' hi h hy => ⟨rfl, ?_⟩) (fun H' h => ?_)⟩
    · obtain ⟨o', ys, _, _, _, S'⟩ := h
      exact S'.l hl
    · obtain ⟨rfl, hy⟩ := hy
      obtain ⟨o', ys, _, sl, B', S'⟩ := h
      rw [List.getElem?_map] at hy
      obtain ⟨z, hz, rfl⟩ := Option.map_eq_some_iff.mp hy
      rw [List.length_map] at hi
      refine ⟨G, _, b, o', 2, rfl, S'.sw, B', by decide, by decide, fun w1 o1 H1 w0 w2 B1 S1 => tst (fun e => ?_) (fun e => ?_)⟩
      · refine ⟨_, S1.sw.hd, ?_, o1, ys ++ [z], hi, ?_, B1, ?_⟩
        · have := sl.length_le
          rw [List.length_take] at this
          rw [List.length_map]
          exact smallL (by omega)
        · rw [XL.take_snoc hz]
          exact sl.append (List.Sublist.refl _)
        · rw [List.map_append]
          exact S1.sw.set
      · exact ⟨o1, ys, hi, by rw [XL.take_snoc hz]; exact sl.trans (List.sublist_append_left _ _), B1, S1.sw⟩
    · obtain ⟨o', ys, _, sl, B', S'⟩ := h
      rw [List.length_map, List.take_length] at sl
      obtain ⟨G2, s2, S2, h2⟩ := Sep.keep S'
      exact q D ys o' G2 _ s2 h2 sl (B'.same s2) S2

end
end K57
set_option Elab.async false
set_option linter.all false
set_option maxRecDepth 100000
set_option maxHeartbeats 4000000
namespace K57
open PySem PySem.Spec PyProof.Rows L2 XL
section
variable {P : Program} {w : World} {K : PySem.W.Frag} {mg : Str → Option Value} {base : Heap}
/-! ### draws: rows and menus -/
theorem cut_to (xs : List V) {r : Int} (h : 0 ≤ r) : cutV xs none (some r) = xs.take r.toNat := by
  obtain ⟨j, rfl⟩ : ∃ j : Nat, r = (j : Int) := ⟨r.toNat, by omega⟩
  unfold cutV
  rw [HT.sIx_nat, HT.sIx_none]
  show List.take (min j xs.length - 0) (List.drop 0 xs) = _
  rw [Nat.sub_zero, List.drop_zero, Int.toNat_natCast]
  by_cases hj : j ≤ xs.length
  · rw [Nat.min_eq_left hj]
  · rw [Nat.min_eq_right (by omega), List.take_length, List.take_of_length_le (by omega)]
def vInt : V → Int
  | .int i => i
  | _ => 0
theorem perm_ints {ys : List V} {xs : List Int} (h : ys.Perm (xs.map V.int)) : ∃ ms : List Int, ys = ms.map V.int ∧ ms.Perm xs := by
  refine ⟨ys.map vInt, ?_, ?_⟩
  · rw [List.map_map]
    have e : ∀ y ∈ ys, (V.int ∘ vInt) y = y := fun y hy => by
      obtain ⟨n, _, rfl⟩ := List.mem_map.mp (h.mem_iff.mp hy)
      rfl
    exact ((List.map_congr_left e).trans (List.map_id _)).symm
  · have z := h.map vInt
    rw [List.map_map] at z
    have e : xs.map (vInt ∘ V.int) = xs := List.map_id _
    rw [e] at z
    exact z
def dig : List Int := [0, 1, 2, 3, 4, 5, 6, 7, 8, 9]
def RwI (ns : List Int) : Prop := ns.Nodup ∧ ∀ n ∈ ns, 0 ≤ n ∧ n ≤ 9
theorem RwI.sub {a b : List Int} (h : RwI b) (s : a.Sublist b) : RwI a := ⟨h.1.sublist s, fun n hn => h.2 n (s.subset hn)⟩
theorem RwI.perm {a b : List Int} (h : RwI b) (s : a.Perm b) : RwI a := ⟨s.nodup_iff.mpr h.1, fun n hn => h.2 n (s.mem_iff.mp hn)⟩
theorem RwI.dig : RwI dig := by
  refine ⟨by decide, ?_⟩
  decide
def rwD (r : List Int) : PyData := .tuple (r.map PyData.int)
def grow (r : List Int) : List Int := r.drop 1 ++ ([7, 8, 9, 3] : List Int).filter fun z => !decide (z ∈ r)
theorem RwI.grow {r : List Int} (h : RwI r) : RwI (grow r) := by
  refine ⟨?_, fun n hn => ?_⟩
  · unfold K57.grow
    rw [List.nodup_append]
    refine ⟨h.1.sublist (List.drop_sublist _ _), (show ([7, 8, 9, 3] : List Int).Nodup by decide).filter _, fun a ha b hb e => ?_⟩
    have := (List.mem_filter.mp hb).2
    have nb : b ∉ r := by simpa using this
    exact nb (by rw [← e]; exact List.mem_of_mem_drop ha)
  · rcases List.mem_append.mp hn with h1 | h1
    · exact h.2 n (List.mem_of_mem_drop h1)
    · have h2 := (List.mem_filter.mp h1).1
      have : ∀ n ∈ ([7, 8, 9, 3] : List Int), 0 ≤ n ∧ n ≤ 9 := by decide
      exact this n h2
def spLRow (K : PySem.W.Frag) : Sp := fun vs H Q _ => ∃ (G : Hp) (M : List (Addr × HO)) (b : Addr) (o : HO) (n : Int), vs = [.ref b, .int n] ∧ Sep G ((b, o) :: M) H ∧ Bag G o ∧ 0 ≤ n ∧ n ≤ 5 ∧
  ∀ (v : V) (ns : List Int) (o' : HO) (G' H' : Hp), Same G G' → Dp K G' v (rwD ns) → RwI ns → ns.length ≤ 5 → Bag G' o' → Sep G' ((b, o') :: M) H' → Q v H'
theorem ok_row (T : Top K mg w) {k : Nat} (G_pick : FnOk P w K mg base CX0 k T.a_pick T.d_pick ["_law_bag_here", "_law_many"] spPick) (G_mingled : FnOk P w K mg base CX0 k T.a_mingled T.d_mingled ["_law_bag_here", "_law_things"] (spMingled K)) :
    FnOk P w K mg base CX0 (k + 1) T.a_row T.d_row ["_law_bag_here", "_law_most"] (spLRow K) := by
  refine T.F_row.ok sc_row (fun vs H Q E h => ?_) (fun cdv A outer s H vs Q E hr h => ?_)
  · obtain ⟨G, M, b, o, n, rfl, _⟩ := h
    rfl
  · obtain ⟨G, M, b, o, n, rfl, S, B, n0, n5, q⟩ := h
    refine ⟨_, (pss_cons (ps_set (i := 2) sc_row.nd rfl (.inl rfl) (pe_call G_mingled (hr.mono (by omega)) (by rfl) T.g_mingled T.F_mingled.kp T.b_mingled .nil pass0 (pa_cons (xv 0) (pa_cons (pe_slice (sl_listK K) (pe_lst (pa_cons pe_int (pa_cons pe_int (pa_cons pe_int (pa_cons pe_int (pa_cons pe_int (pa_cons pe_int (pa_cons pe_int (pa_cons pe_int (pa_cons pe_int (pa_cons pe_int pa_nil))))))))))) po_none (po_some (pe_op op_addY pe_int (pe_call G_pick (hr.mono (by omega)) (by rfl) T.g_pick T.F_pick.kp T.b_pick .nil pass0 (pa_cons (xv 0) (pa_cons pe_int pa_nil)))))) pa_nil))))
      (pss_one (ps_ret (pe_callTy (call_tupleK K) (by rfl) T.m_tuple (by decide +kernel) (pa_cons (pe_slice (sl_listK K) (xv 2) po_none (po_some (pe_call G_pick (hr.mono (by omega)) (by rfl) T.g_pick T.F_pick.kp T.b_pick .nil pass0 (pa_cons (xv 0) (pa_cons (pe_op op_addY (xv 1) pe_int) pa_nil))))) pa_nil))))), ?_⟩
    refine ⟨sz, fun l0 nl0 => ?_⟩
    obtain ⟨G1, s1, S1, h1⟩ := Sep.mk (o := .lst (dig.map V.int)) S nl0
    refine ⟨G1, M, b, o, 9, rfl, S1, B.same s1, by decide, by decide, fun r o2 H2 r0 r1 B2 S2 => ?_⟩
    refine ⟨_, rfl, l0, _, rfl, SqL.of (S2.st h1), fun p np => ?_⟩
    rw [cut_to _ (by omega), ← List.map_take]
    obtain ⟨G3, s3, S3, h3⟩ := Sep.mk (o := .lst ((dig.take (2 + r).toNat).map V.int)) S2 np
    refine ⟨G3, M, b, o2, p, _, rfl, S3, B2.same s3, .inl (SqL.of h3), ?_, fun a ys o4 G4 H4 s4 h4 pm B4 S4 => ?_⟩
    · rw [List.length_map, List.length_take]
      exact Nat.lt_of_le_of_lt (Nat.min_le_right _ _) (by decide)
    · obtain ⟨ms, rfl, pm'⟩ := perm_ints pm
      refine ⟨G4, M, b, o4, n + 1, rfl, S4, B4, by omega, by omega, fun r5 o5 H5 r50 r51 B5 S5 => ?_⟩
      refine ⟨_, rfl, a, _, rfl, SqL.of (S5.st h4), fun p2 np2 => ?_⟩
      rw [cut_to _ r50, ← List.map_take]
      obtain ⟨G6, s6, S6, h6⟩ := Sep.mk (o := .lst ((ms.take r5.toNat).map V.int)) S5 np2
      refine ⟨p2, _, rfl, .inl ⟨SqL.of (S6.st h6), fun t nt => ?_⟩⟩
      obtain ⟨G7, s7, S7, d7⟩ := dp_mk (K := K) S6 nt (ints_of (ms.take r5.toNat))
      exact q _ (ms.take r5.toNat) o5 G7 _ (s1.trans (s3.trans (s4.trans (s6.trans s7)))) d7 (((RwI.dig.sub (List.take_sublist _ _)).perm pm').sub (List.take_sublist _ _)) (by rw [List.length_take]; omega) (B5.same (s6.trans s7)) S7
def spLMenu (K : PySem.W.Frag) : Sp := fun vs H Q _ => ∃ (G : Hp) (M : List (Addr × HO)) (b : Addr) (o : HO), vs = [.ref b, .int 3] ∧ Sep G ((b, o) :: M) H ∧ Bag G o ∧
  ∀ (v : V) (m : PyData) (o' : HO) (G' H' : Hp), Same G G' → Dp K G' v m → GdM m → Bag G' o' → Sep G' ((b, o') :: M) H' → Q v H'
theorem ok_menu (T : Top K mg w) {k : Nat} (G_pick : FnOk P w K mg base CX0 k T.a_pick T.d_pick ["_law_bag_here", "_law_many"] spPick) (G_mingled : FnOk P w K mg base CX0 k T.a_mingled T.d_mingled ["_law_bag_here", "_law_things"] (spMingled K)) (G_row : FnOk P w K mg base CX0 k T.a_row T.d_row ["_law_bag_here", "_law_most"] (spLRow K)) :
    FnOk P w K mg base CX0 (k + 1) T.a_menu T.d_menu ["_law_bag_here", "_law_most"] (spLMenu K) := by
  refine T.F_menu.ok sc_menu (fun vs H Q E h => ?_) (fun cdv A outer s H vs Q E hr h => ?_)
  · obtain ⟨G, M, b, o, rfl, _⟩ := h
    rfl
  · obtain ⟨G, M, b, o, rfl, S, B, q⟩ := h
    refine ⟨_, (pss_cons (ps_set (i := 2) sc_menu.nd rfl (.inl rfl) (pe_lst (pa_cons (pe_call G_row (hr.mono (by omega)) (by rfl) T.g_row T.F_row.kp T.b_row .nil pass0 (pa_cons (xv 0) (pa_cons (xv 1) pa_nil))) pa_nil)))
      (pss_cons (ps_for PassesOwn.never rfl (pi_range1 (by rfl) T.m_range (pa_cons (pe_call G_pick (hr.mono (by omega)) (by rfl) T.g_pick T.F_pick.kp T.b_pick .nil pass0 (pa_cons (xv 0) (pa_cons pe_int pa_nil))) pa_nil)) (pg_name (i := 3) sc_menu.nd rfl (.inl rfl))
      (xss_cut (ps_set (i := 4) sc_menu.nd rfl (.inr rfl) (pe_ix (ix_k K) (xv 2) (pe_call G_pick (hr.mono (by omega)) (by rfl) T.g_pick T.F_pick.kp T.b_pick .nil pass0 (pa_cons (xv 0) (pa_cons (pe_callB (cr_lenK K) (by rfl) T.m_len (by decide +kernel) (pa_cons (xv 2) pa_nil)) pa_nil))) (fun _ _ => rfl)))
      (xss_cut (ps_set (i := 5) sc_menu.nd rfl (.inl rfl) (pe_op op_addY (pe_callTy (call_listK K) (by rfl) T.m_list (by decide +kernel) (pa_cons (pe_slice (sl_tupAK K) (xv 4) (po_some pe_int) po_none) pa_nil)) (pe_lc (own := [("_law_item", 7)]) (by rfl) sc_menu.nd (pi_listK K (pe_lst (pa_cons pe_int (pa_cons pe_int (pa_cons pe_int (pa_cons pe_int pa_nil)))))) (blkOk_by (N := ["_law_bag_here", "_law_most", "_law_rows", "_law_step", "_law_old", "_law_grown", "_law_ways", "_law_item"]) (sc := defScope s_menu) (by decide +kernel)) (fun _ _ _ _ _ => (pg_name (i := 7) sc_menu.nd rfl (.inl rfl))) (fun _ _ _ _ _ => (pts_one (xt_cmp (notin_seqK K) (xv 7) (xv 4) (by rfl)))) (fun _ _ _ _ _ => (xv 7)))))
      (pss_cons (ps_set (i := 6) sc_menu.nd rfl (.inl rfl) (pe_lst (pa_cons (pe_callTy (call_listK K) (by rfl) T.m_list (by decide +kernel) (pa_cons (pe_call G_row (hr.mono (by omega)) (by rfl) T.g_row T.F_row.kp T.b_row .nil pass0 (pa_cons (xv 0) (pa_cons (xv 1) pa_nil))) pa_nil)) (pa_cons (pe_call G_mingled (hr.mono (by omega)) (by rfl) T.g_mingled T.F_mingled.kp T.b_mingled .nil pass0 (pa_cons (xv 0) (pa_cons (xv 4) pa_nil))) (pa_cons (pe_lc (own := [("_law_item", 7)]) (by rfl) sc_menu.nd (pi_tupK K (xv 4)) (blkOk_by (N := ["_law_bag_here", "_law_most", "_law_rows", "_law_step", "_law_old", "_law_grown", "_law_ways", "_law_item"]) (sc := defScope s_menu) (by decide +kernel)) (fun _ _ _ _ _ => (pg_name (i := 7) sc_menu.nd rfl (.inl rfl))) (fun _ _ _ _ _ => (pts_one (xt_cmp op_gtY (pe_call G_pick (hr.mono (by omega)) (by rfl) T.g_pick T.F_pick.kp T.b_pick .nil pass0 (pa_cons (xv 0) (pa_cons pe_int pa_nil))) pe_int (nomark _)))) (fun _ _ _ _ _ => (xv 7))) (pa_cons (xv 5) pa_nil))))))
      (pss_one (ps_expr (pe_bmK K PySem.F.plainAttrs_list PySem.F.slot_list_append PySem.F.type_list_append mt_append (xv 2) (pa_cons (pe_callTy (call_tupleK K) (by rfl) T.m_tuple (by decide +kernel) (pa_cons (pe_slice (sl_listK K) (pe_ix (ix_k K) (xv 6) (pe_call G_pick (hr.mono (by omega)) (by rfl) T.g_pick T.F_pick.kp T.b_pick .nil pass0 (pa_cons (xv 0) (pa_cons pe_int pa_nil))) (fun _ _ => rfl)) po_none (po_some (xv 1))) pa_nil)) pa_nil))))))))
      (pss_one (ps_ret (pe_callTy (call_tupleK K) (by rfl) T.m_tuple (by decide +kernel) (pa_cons (xv 2) pa_nil)))))), ?_⟩
    refine ⟨G, M, b, o, 3, rfl, S, B, by decide, by decide, fun v1 r1 o1 G1 H1 s1 d1 w1 l1 B1 S1 => ⟨sz, fun R nR => ?_⟩⟩
    have S2 := S1.new (o := .lst [v1]) nR
    refine ⟨G1, _, b, o1, 3, rfl, S2.sw, B1, by decide, by decide, fun w2 o3 H3 w20 w23 B3 S3 => ?_⟩
    refine ⟨_, rfl, by omega, by omega, for_range (lo := 0) (n := w2.toNat) (fun i σ H' => ∃ (y3 y4 y5 y6 y7 : Option V) (o' : HO) (rs : List (List Int)) (us : List V) (G' : Hp), σ = [some (.ref b), some (.int 3), some (.ref R), y3, y4, y5, y6, y7] ∧ Same G1 G' ∧ Bag G' o' ∧ Sep G' ((b, o') :: (R, .lst us) :: M) H' ∧ DpAll K G' us (rs.map rwD) ∧ rs.length = i + 1 ∧ ∀ r ∈ rs, RwI r ∧ r.length ≤ 5) ?_ (fun i σ H' hi h => ?_) (fun σ H' h => ?_)⟩
    · exact ⟨_, _, _, _, _, o3, [r1], [v1], G1, rfl, Same.refl _, B3, S3, dpa_one d1, rfl, fun r hr => by rw [List.mem_singleton.mp hr]; exact ⟨w1, l1⟩⟩
    · obtain ⟨y3, y4, y5, y6, y7, o', rs, us, G2, rfl, s2, B2, S4, du, rl, hr⟩ := h
      have ul := dpa_len du
      rw [List.length_map] at ul
      refine ⟨fun σ H'' => ∃ (a : Addr) (r : List Int) (o4 : HO), σ = [some (.ref b), some (.int 3), some (.ref R), some (.int (0 + (i : Nat))), some (.ref a), y5, y6, y7] ∧ SqT K G2 a (r.map V.int) ∧ (RwI r ∧ r.length ≤ 5) ∧ Bag G2 o4 ∧ Sep G2 ((b, o4) :: (R, .lst us) :: M) H'', ?_, fun σ H4 h => ?_⟩
      · refine ⟨_, .inl (SqL.of S4.sw.hd), G2, _, b, o', (us.length : Nat), rfl, S4, B2, by omega, by omega, fun x o4 H4 x0 x1 B4 S5 => ?_⟩
        obtain ⟨v, hv, hm⟩ := atI_in x0 x1
        obtain ⟨j, hj⟩ := List.getElem?_of_mem hm
        obtain ⟨d, hd, hvd⟩ := dpa_get du hj
        rw [List.getElem?_map] at hd
        obtain ⟨r, hr1, rfl⟩ := Option.map_eq_some_iff.mp hd
        obtain ⟨a, ys, rfl, ha, hy⟩ := dp_tup hvd
        obtain rfl := dpa_ints hy
        exact ⟨_, _, .inl (SqL.of S5.sw.hd), hv, a, r, o4, rfl, ha, hr r (List.mem_of_getElem? hr1), B4, S5⟩
      obtain ⟨a, r, o4, rfl, ha, ⟨wr, r5⟩, B4, S4⟩ := h
      refine ⟨fun σ H'' => ∃ (l5 : Addr) (G' : Hp), σ = [some (.ref b), some (.int 3), some (.ref R), some (.int (0 + (i : Nat))), some (.ref a), some (.ref l5), y6, y7] ∧ Same G2 G' ∧ Sep G' ((b, o4) :: (R, .lst us) :: M) H'' ∧ G' l5 = some (.lst ((grow r).map V.int)), ?_, fun σ H5 h => ?_⟩
      · have ec : cutV (r.map V.int) (some (1 : Int)) none = (r.drop 1).map V.int := by
          have e1 : cutV (r.map V.int) (some ((1 : Nat) : Int)) none = _ := rfl
          rw [List.map_drop]
          unfold cutV
          show ((r.map V.int).drop (HT.sIx (r.map V.int).length 0 (some ((1 : Nat) : Int)))).take (HT.sIx (r.map V.int).length (r.map V.int).length none - HT.sIx (r.map V.int).length 0 (some ((1 : Nat) : Int))) = _
          rw [HT.sIx_nat, HT.sIx_none]
          by_cases hl : 1 ≤ (r.map V.int).length
          · rw [Nat.min_eq_left hl]
            exact List.take_of_length_le (by rw [List.length_drop]; exact Nat.le_refl _)
          · have e0 : r.map V.int = [] := List.eq_nil_of_length_eq_zero (by omega)
            rw [e0]
            rfl
        refine ⟨_, rfl, a, _, rfl, S4.t ha, fun hw => ?_, fun _ p np => ?_⟩
        · have r0 : r = [] := by
            have h0 : HT.sIx (r.map V.int).length 0 (some ((1 : Nat) : Int)) = 0 := hw.1
            rw [HT.sIx_nat, List.length_map] at h0
            exact List.eq_nil_of_length_eq_zero (by omega)
          have ed : (r.drop 1).map V.int = r.map V.int := by rw [r0]; rfl
          refine ⟨a, _, rfl, .inr (S4.t ha), fun l2 n2 => ?_⟩
          obtain ⟨G5, s5, S5, h5⟩ := Sep.mk (o := .lst ((r.drop 1).map V.int)) S4 n2
          rw [← ed]
          refine ⟨sz, fun l3 m3 => ?_⟩
          obtain ⟨G6, s6, S6, h6⟩ := Sep.mk (o := .lst (([7, 8, 9, 3] : List Int).map V.int)) S5 m3
          refine ⟨l3, rfl, ⟨_, S6.l (SqL.of h6)⟩, fun D4 m4 => lc_dpX (K := K) (walk_list (xs := ([7, 8, 9, 3] : List Int).map V.int)) S6 m4 (fun i => ((([7, 8, 9, 3] : List Int).take i).filter fun z => !decide (z ∈ r)).map PyData.int) (by simp) (by decide) (fun G' H' us s' S' => S'.l (same_l s' (SqL.of h6))) (fun i y G' H' H2 us R F hi s' S' yy hR hF => ?_) (fun G7 H7 us7 s7 S7 hw => ?_)⟩
          · obtain ⟨rfl, hy⟩ := yy
            rw [List.getElem?_map] at hy
            obtain ⟨z, hz, rfl⟩ := Option.map_eq_some_iff.mp hy
            refine ⟨rfl, a, _, rfl, .inr (S'.t (same_t (s5.trans (s6.trans s')) ha)), rfl, rd_flat _, ?_⟩
            show if (!inV (.int z) (r.map V.int)) = true then _ else _
            refine tst (fun e => ?_) (fun e => ?_)
            · rw [inV_int] at e
              exact hR _ (.int z) G' _ (by rw [XL.take_snoc hz, List.filter_append, List.map_append, List.filter_cons, if_pos e]; rfl) (Same.refl _) S' (.int z)
            · rw [inV_int] at e
              exact hF (by rw [XL.take_snoc hz, List.filter_append, List.map_append, List.filter_cons, if_neg (by rw [e]; decide)]; exact List.append_nil _) G' _ (Same.refl _) S'
          · have e7 : (([7, 8, 9, 3] : List Int)).take (([7, 8, 9, 3] : List Int).map V.int).length = [7, 8, 9, 3] := rfl
            rw [e7] at hw
            obtain rfl := dpa_ints hw
            refine ⟨l2, D4, _, _, rfl, rfl, S7.st (s7 _ _ (s6 _ _ h5)), S7.hd, ?_, fun l8 m8 => ?_⟩
            · rw [List.length_map, List.length_map]
              have := List.length_filter_le (fun z => !decide (z ∈ r)) ([7, 8, 9, 3] : List Int)
              simp only [List.length_cons, List.length_nil] at this
              rw [List.length_drop]
              exact small (by omega)
            · rw [← List.map_append]
              obtain ⟨G8, s8, S8, h8⟩ := Sep.mk (o := .lst ((grow r).map V.int)) S7 m8
              exact ⟨l8, G8, rfl, s5.trans (s6.trans (s7.trans s8)), S8.drop, h8⟩
        · rw [ec]
          obtain ⟨G4, s4, S4', h4⟩ := Sep.mk (o := .tup ((r.drop 1).map V.int)) S4 np
          refine ⟨p, _, rfl, .inr (SqT.of (S4'.st h4)), fun l2 n2 => ?_⟩
          obtain ⟨G5, s5', S5, h5⟩ := Sep.mk (o := .lst ((r.drop 1).map V.int)) S4' n2
          have s5 := s4.trans s5'
          refine ⟨sz, fun l3 m3 => ?_⟩
          obtain ⟨G6, s6, S6, h6⟩ := Sep.mk (o := .lst (([7, 8, 9, 3] : List Int).map V.int)) S5 m3
          refine ⟨l3, rfl, ⟨_, S6.l (SqL.of h6)⟩, fun D4 m4 => lc_dpX (K := K) (walk_list (xs := ([7, 8, 9, 3] : List Int).map V.int)) S6 m4 (fun i => ((([7, 8, 9, 3] : List Int).take i).filter fun z => !decide (z ∈ r)).map PyData.int) (by simp) (by decide) (fun G' H' us s' S' => S'.l (same_l s' (SqL.of h6))) (fun i y G' H' H2 us R F hi s' S' yy hR hF => ?_) (fun G7 H7 us7 s7 S7 hw => ?_)⟩
          · obtain ⟨rfl, hy⟩ := yy
            rw [List.getElem?_map] at hy
            obtain ⟨z, hz, rfl⟩ := Option.map_eq_some_iff.mp hy
            refine ⟨rfl, a, _, rfl, .inr (S'.t (same_t (s5.trans (s6.trans s')) ha)), rfl, rd_flat _, ?_⟩
            show if (!inV (.int z) (r.map V.int)) = true then _ else _
            refine tst (fun e => ?_) (fun e => ?_)
            · rw [inV_int] at e
              exact hR _ (.int z) G' _ (by rw [XL.take_snoc hz, List.filter_append, List.map_append, List.filter_cons, if_pos e]; rfl) (Same.refl _) S' (.int z)
            · rw [inV_int] at e
              exact hF (by rw [XL.take_snoc hz, List.filter_append, List.map_append, List.filter_cons, if_neg (by rw [e]; decide)]; exact List.append_nil _) G' _ (Same.refl _) S'
          · have e7 : (([7, 8, 9, 3] : List Int)).take (([7, 8, 9, 3] : List Int).map V.int).length = [7, 8, 9, 3] := rfl
            rw [e7] at hw
            obtain rfl := dpa_ints hw
            refine ⟨l2, D4, _, _, rfl, rfl, S7.st (s7 _ _ (s6 _ _ h5)), S7.hd, ?_, fun l8 m8 => ?_⟩
            · rw [List.length_map, List.length_map]
              have := List.length_filter_le (fun z => !decide (z ∈ r)) ([7, 8, 9, 3] : List Int)
              simp only [List.length_cons, List.length_nil] at this
              rw [List.length_drop]
              exact small (by omega)
            · rw [← List.map_append]
              obtain ⟨G8, s8, S8, h8⟩ := Sep.mk (o := .lst ((grow r).map V.int)) S7 m8
              exact ⟨l8, G8, rfl, s5.trans (s6.trans (s7.trans s8)), S8.drop, h8⟩
      obtain ⟨l5, G3, rfl, s3, S5, h5⟩ := h
      -- the ways
      refine ⟨G3, _, b, o4, 3, rfl, S5, B4.same s3, by decide, by decide, fun v6 r6 o6 G6 H6 s6 d6 w6 l6 B6 S6 => ?_⟩
      obtain ⟨a6, x6, rfl, ha6, hx6⟩ := dp_tup d6
      obtain rfl := dpa_ints hx6
      refine ⟨a6, _, rfl, .inr (S6.t ha6), fun l7 n7 => ?_⟩
      obtain ⟨G7, s7, S7, h7⟩ := Sep.mk (o := .lst (r6.map V.int)) S6 n7
      have t37 := s3.trans (s6.trans s7)
      refine ⟨G7, _, b, o6, a, _, rfl, S7, B6.same s7, .inr (same_t t37 ha), by rw [List.length_map]; omega, fun p8 ys8 o8 G8 H8 s8 h8 pm B8 S8 => ?_⟩
      obtain ⟨ms, rfl, pm'⟩ := perm_ints pm
      have t38 := t37.trans s8
      refine ⟨a, rfl, ⟨_, S8.t (same_t t38 ha)⟩, fun D9 n9 => lc_it (walk_tup (xs := r.map V.int)) (fun i H' => ∃ (o' : HO) (ys : List Int), i ≤ r.length ∧ ys.Sublist (r.take i) ∧ Bag G8 o' ∧ Sep G8 ((D9, .lst (ys.map V.int)) :: (b, o') :: (R, .lst us) :: M) H') ⟨o8, [], Nat.zero_le _, .slnil, B8, S8.new n9⟩ (fun i H' _ h => ?_) (fun i y H' H'' hi h hy => ⟨rfl, ?_⟩) (fun H' h => ?_)⟩
      · obtain ⟨o', ys, _, _, _, S'⟩ := h
        exact S'.t (same_t t38 ha)
      · obtain ⟨rfl, hy⟩ := hy
        obtain ⟨o', ys, _, sl, B', S'⟩ := h
        rw [List.getElem?_map] at hy
        obtain ⟨z, hz, rfl⟩ := Option.map_eq_some_iff.mp hy
        rw [List.length_map] at hi
        refine ⟨G8, _, b, o', 3, rfl, S'.sw, B', by decide, by decide, fun w1 o1 H1 w0 w2 B1 S1 => tst (fun e => ?_) (fun e => ?_)⟩
        · refine ⟨_, S1.sw.hd, ?_, o1, ys ++ [z], hi, ?_, B1, ?_⟩
          · have := sl.length_le
            rw [List.length_take] at this
            rw [List.length_map]
            exact smallL (by omega)
          · rw [XL.take_snoc hz]
            exact sl.append (List.Sublist.refl _)
          · rw [List.map_append]
            exact S1.sw.set
        · exact ⟨o1, ys, hi, by rw [XL.take_snoc hz]; exact sl.trans (List.sublist_append_left _ _), B1, S1.sw⟩
      obtain ⟨o9, ys, _, sl, B9, S9⟩ := h
      rw [List.length_map, List.take_length] at sl
      obtain ⟨G9, s9, S9, h9⟩ := Sep.keep S9
      refine ⟨sz, fun l10 n10 => ?_⟩
      obtain ⟨G10, s10, S10, h10⟩ := Sep.mk (o := .lst [.ref l7, .ref p8, .ref D9, .ref l5]) S9 n10
      have t310 := s3.trans (s6.trans (s7.trans (s8.trans (s9.trans s10))))
      refine ⟨.inl ⟨rfl, _, SqL.of S10.sw.hd⟩, G10, _, b, o9, 4, rfl, S10, B9.same (s9.trans s10), by decide, by decide, fun w11 o11 H11 w110 w114 B11 S11 => ?_⟩
      have pk : ∃ (lw : Addr) (rw' : List Int), atI [V.ref l7, V.ref p8, V.ref D9, V.ref l5] w11 = some (.ref lw) ∧ G10 lw = some (.lst (rw'.map V.int)) ∧ RwI rw' := by
        have h : w11 = 0 ∨ w11 = 1 ∨ w11 = 2 ∨ w11 = 3 := by omega
        rcases h with rfl | rfl | rfl | rfl
        · exact ⟨l7, r6, rfl, s10 _ _ (s9 _ _ (s8 _ _ h7)), w6⟩
        · exact ⟨p8, ms, rfl, s10 _ _ (s9 _ _ h8), wr.perm pm'⟩
        · exact ⟨D9, ys, rfl, s10 _ _ h9, wr.sub sl⟩
        · exact ⟨l5, grow r, rfl, s10 _ _ (s9 _ _ (s8 _ _ (s7 _ _ (s6 _ _ h5)))), wr.grow⟩
      obtain ⟨lw, rw', hat, hlw, wrw⟩ := pk
      refine ⟨_, _, .inl (SqL.of (S11.st h10)), hat, _, rfl, lw, _, rfl, SqL.of (S11.st hlw), fun p12 n12 => ?_⟩
      rw [cut_to _ (by decide), ← List.map_take]
      obtain ⟨G12, s12, S12, h12⟩ := Sep.mk (o := .lst ((rw'.take (3 : Int).toNat).map V.int)) S11 n12
      refine ⟨p12, _, rfl, .inl ⟨SqL.of (S12.st h12), fun t13 n13 => ?_⟩⟩
      obtain ⟨G13, s13, S13, d13⟩ := dp_mk (K := K) S12 n13 (ints_of (rw'.take (3 : Int).toNat))
      have t313 := t310.trans (s12.trans s13)
      refine ⟨R, _, _, rfl, rfl, S13.sw.hd, smallL (by omega), ?_⟩
      refine ⟨_, _, _, _, _, o11, rs ++ [rw'.take (3 : Int).toNat], us ++ [.ref t13], G13, rfl, s2.trans t313, B11.same (s12.trans s13), (S13.sw.set (o' := .lst (us ++ [.ref t13]))).sw, ?_, by rw [List.length_append, rl]; rfl, fun x hx => ?_⟩
      · rw [List.map_append]
        exact dpa_app (dpa_same t313 du) (dpa_one d13)
      · rcases List.mem_append.mp hx with h | h
        · exact hr x h
        · rw [List.mem_singleton.mp h]
          refine ⟨wrw.sub (List.take_sublist _ _), ?_⟩
          rw [List.length_take]
          have : (3 : Int).toNat = 3 := rfl
          omega
    · obtain ⟨y3, y4, y5, y6, y7, o', rs, us, G2, rfl, s2, B2, S4, du, rl, hr⟩ := h
      refine ⟨R, us, rfl, .inl ⟨SqL.of S4.sw.hd, fun t nt => ?_⟩⟩
      obtain ⟨G7, s7, S7, d7⟩ := dp_mk (K := K) S4.sw nt du
      refine q _ _ o' G7 _ (s1.trans (s2.trans s7)) d7 ⟨rs, rfl, by omega, by omega, fun r h => ⟨(hr r h).2, (hr r h).1.1, (hr r h).1.2⟩⟩ (B2.same s7) S7.drop

end
end K57
set_option Elab.async false
set_option linter.all false
set_option maxRecDepth 100000
set_option maxHeartbeats 4000000
namespace K57
open PySem PySem.Spec PyProof.Rows L2 XL
section
variable {P : Program} {w : World} {K : PySem.W.Frag} {mg : Str → Option Value} {base : Heap}
/-! ### draws: a key -/
def spLKey (K : PySem.W.Frag) : Sp := fun vs H Q _ => ∃ (G : Hp) (M : List (Addr × HO)) (b : Addr) (o : HO), vs = [.ref b, .bl true] ∧ Sep G ((b, o) :: M) H ∧ Bag G o ∧
  ∀ (v : V) (d : PyData) (o' : HO) (G' H' : Hp), Same G G' → Dp K G' v d → FmD ["item", "at"] d → Bag G' o' → Sep G' ((b, o') :: M) H' → Q v H'
theorem ok_key (T : Top K mg w) {k : Nat} (G_pick : FnOk P w K mg base CX0 k T.a_pick T.d_pick ["_law_bag_here", "_law_many"] spPick) : FnOk P w K mg base CX0 (k + 1) T.a_key T.d_key ["_law_bag_here", "_law_weak"] (spLKey K) := by
  refine T.F_key.ok sc_key (fun vs H Q E h => ?_) (fun cdv A outer s H vs Q E hr h => ?_)
  · obtain ⟨G, M, b, o, rfl, _⟩ := h
    rfl
  · obtain ⟨G, M, b, o, rfl, S, B, q⟩ := h
    refine ⟨_, (pss_cons (xs_if (PW.pt (xw_or (pt_not (xt_truK K (xv 1))) (pw_or1 (xt_cmp (op_eqLK K hr.u190) (pe_call G_pick (hr.mono (by omega)) (by rfl) T.g_pick T.F_pick.kp T.b_pick .nil pass0 (pa_cons (xv 0) (pa_cons pe_int pa_nil))) pe_int (nomark _)))))
      (pss_one (ps_ret (pe_tup (pa_cons pe_str (pa_cons pe_str pa_nil)))))
      pss_nil)
      (pss_one (ps_ret (pe_ix (ix_k K) (pe_lst (pa_cons (pe_tup (pa_cons pe_str (pa_cons pe_str pa_nil))) (pa_cons (pe_tup (pa_cons pe_str (pa_cons pe_int pa_nil))) (pa_cons (pe_tup (pa_cons pe_str (pa_cons (pe_tup (pa_cons pe_str (pa_cons pe_str pa_nil))) (pa_cons (pe_tup (pa_cons pe_str (pa_cons (pe_call G_pick (hr.mono (by omega)) (by rfl) T.g_pick T.F_pick.kp T.b_pick .nil pass0 (pa_cons (xv 0) (pa_cons pe_int pa_nil))) pa_nil))) pa_nil)))) (pa_cons (pe_tup (pa_cons pe_str (pa_cons (pe_tup (pa_cons pe_str (pa_cons pe_str pa_nil))) (pa_cons (pe_tup (pa_cons pe_str (pa_cons pe_str pa_nil))) pa_nil)))) (pa_cons (pe_tup (pa_cons pe_str (pa_cons (pe_tup (pa_cons pe_str (pa_cons pe_str pa_nil))) (pa_cons (pe_tup (pa_cons pe_str (pa_cons pe_int pa_nil))) pa_nil)))) (pa_cons (pe_tup (pa_cons pe_str (pa_cons (pe_tup (pa_cons pe_str (pa_cons pe_str pa_nil))) (pa_cons (pe_tup (pa_cons pe_str (pa_cons pe_str pa_nil))) (pa_cons (pe_tup (pa_cons pe_str (pa_cons pe_int pa_nil))) pa_nil))))) pa_nil))))))) (pe_call G_pick (hr.mono (by omega)) (by rfl) T.g_pick T.F_pick.kp T.b_pick .nil pass0 (pa_cons (xv 0) (pa_cons pe_int pa_nil))) (fun _ _ => rfl))))), ?_⟩
    have fi : GdF ["item", "at"] (.get "item") := ⟨List.mem_cons_self, by show 1 ≤ 5; decide⟩
    have fa : GdF ["item", "at"] (.get "at") := ⟨List.mem_cons_of_mem _ List.mem_cons_self, by show 1 ≤ 5; decide⟩
    refine ⟨ff, fun _ => ⟨G, M, b, o, 3, rfl, S, B, by decide, by decide, fun w1 o1 H1 w10 w13 B1 S1 => ⟨fun _ => ⟨sz, fun t nt => ?_⟩, fun _ => ?_⟩⟩⟩
    · obtain ⟨G2, s2, S2, d2'⟩ := dp_mk (K := K) (ds := [.str "get", .str "item"]) S1 nt (.cons (.str _) (.cons (.str _) .nil))
      exact q _ _ o1 G2 _ s2 d2' ⟨.get "item", rfl, fi⟩ (B1.same s2) S2
    · refine ⟨sz, fun t1 m1 => ⟨sz, fun t2 m2 => ⟨sz, fun t3 m3 => ?_⟩⟩⟩
      obtain ⟨G1, s1, S1, d1⟩ := dp_mk (K := K) (ds := [.str "get", .str "at"]) S1 m1 (.cons (.str _) (.cons (.str _) .nil))
      obtain ⟨G2, s2, S2, d2'⟩ := dp_mk (K := K) (ds := [.str "is", .int 0]) S1 m2 (.cons (.str _) (.cons (.int _) .nil))
      obtain ⟨G3, s3, S3, d3'⟩ := dp_mk (K := K) (ds := [.str "get", .str "item"]) S2 m3 (.cons (.str _) (.cons (.str _) .nil))
      refine ⟨G3, M, b, o1, 10, rfl, S3, B1.same (s1.trans (s2.trans s3)), by decide, by decide, fun n o4 H4 n0 n1 B4 S4 => ⟨sz, fun t4 m4 => ⟨sz, fun t5 m5 => ⟨sz, fun t6 m6 => ⟨sz, fun t7 m7 => ⟨sz, fun t8 m8 => ⟨sz, fun t9 m9 => ⟨sz, fun t10 m10 => ⟨sz, fun t11 m11 => ⟨sz, fun t12 m12 => ⟨sz, fun t13 m13 => ⟨sz, fun t14 m14 => ⟨sz, fun t15 m15 => ⟨sz, fun t16 m16 => ?_⟩⟩⟩⟩⟩⟩⟩⟩⟩⟩⟩⟩⟩⟩
      obtain ⟨G4, s4, S4, d4⟩ := dp_mk (K := K) (ds := [.str "is", .int n]) S4 m4 (.cons (.str _) (.cons (.int _) .nil))
      obtain ⟨G5, s5, S5, d5⟩ := dp_mk (K := K) (ds := [.str "same", (Gm.get "item").dat, (Gm.is n).dat]) S4 m5 (.cons (.str _) (.cons (dp_same s4 d3') (.cons d4 .nil)))
      obtain ⟨G6, s6, S6, d6⟩ := dp_mk (K := K) (ds := [.str "get", .str "item"]) S5 m6 (.cons (.str _) (.cons (.str _) .nil))
      obtain ⟨G7, s7, S7, d7⟩ := dp_mk (K := K) (ds := [.str "get", .str "at"]) S6 m7 (.cons (.str _) (.cons (.str _) .nil))
      obtain ⟨G8, s8, S8, d8⟩ := dp_mk (K := K) (ds := [.str "sum", (Gm.get "item").dat, (Gm.get "at").dat]) S7 m8 (.cons (.str _) (.cons (dp_same s7 d6) (.cons d7 .nil)))
      obtain ⟨G9, s9, S9, d9⟩ := dp_mk (K := K) (ds := [.str "get", .str "item"]) S8 m9 (.cons (.str _) (.cons (.str _) .nil))
      obtain ⟨G10, s10, S10, d10⟩ := dp_mk (K := K) (ds := [.str "is", .int 3]) S9 m10 (.cons (.str _) (.cons (.int _) .nil))
      obtain ⟨G11, s11, S11, d11⟩ := dp_mk (K := K) (ds := [.str "sum", (Gm.get "item").dat, (Gm.is 3).dat]) S10 m11 (.cons (.str _) (.cons (dp_same s10 d9) (.cons d10 .nil)))
      obtain ⟨G12, s12, S12, d12⟩ := dp_mk (K := K) (ds := [.str "get", .str "at"]) S11 m12 (.cons (.str _) (.cons (.str _) .nil))
      obtain ⟨G13, s13, S13, d13⟩ := dp_mk (K := K) (ds := [.str "get", .str "item"]) S12 m13 (.cons (.str _) (.cons (.str _) .nil))
      obtain ⟨G14, s14, S14, d14⟩ := dp_mk (K := K) (ds := [.str "is", .int 1]) S13 m14 (.cons (.str _) (.cons (.int _) .nil))
      obtain ⟨G15, s15, S15, d15⟩ := dp_mk (K := K) (ds := [.str "pick", (Gm.get "at").dat, (Gm.get "item").dat, (Gm.is 1).dat]) S14 m15 (.cons (.str _) (.cons (dp_same (s13.trans s14) d12) (.cons (dp_same s14 d13) (.cons d14 .nil))))
      obtain ⟨G16, s16, S16, h16⟩ := Sep.mk (o := .lst [.ref t1, .ref t2, .ref t5, .ref t8, .ref t11, .ref t15]) S15 m16
      have u15 := s16
      have u11 := s12.trans (s13.trans (s14.trans (s15.trans u15)))
      have u8 := s9.trans (s10.trans (s11.trans u11))
      have u5 := s6.trans (s7.trans (s8.trans u8))
      have u3 := s4.trans (s5.trans u5)
      have u2 := s3.trans u3
      have u1 := s2.trans u2
      have all : DpAll K G16 [.ref t1, .ref t2, .ref t5, .ref t8, .ref t11, .ref t15] [(Gm.get "at").dat, (Gm.is 0).dat, (Gm.same (.get "item") (.is n)).dat, (Gm.sum (.get "item") (.get "at")).dat, (Gm.sum (.get "item") (.is 3)).dat, (Gm.pick (.get "at") (.get "item") (.is 1)).dat] :=
        .cons (dp_same u1 d1) (.cons (dp_same u2 d2') (.cons (dp_same u5 d5) (.cons (dp_same u8 d8) (.cons (dp_same u11 d11) (.cons (dp_same u15 d15) .nil)))))
      refine ⟨G16, M, b, o4, 6, rfl, S16, B4.same u3, by decide, by decide, fun x o17 H17 x0 x1 B17 S17 => ?_⟩
      obtain ⟨v, hv, hm⟩ := atI_in (xs := [V.ref t1, V.ref t2, V.ref t5, V.ref t8, V.ref t11, V.ref t15]) x0 x1
      obtain ⟨j, hj⟩ := List.getElem?_of_mem hm
      obtain ⟨d, hd, hvd⟩ := dpa_get all hj
      refine ⟨_, _, .inl (SqL.of (S17.st h16)), hv, q v d o17 G16 _ (s1.trans u1) hvd ?_ B17 S17⟩
      have hd := List.mem_of_getElem? hd
      simp only [List.mem_cons, List.not_mem_nil, or_false] at hd
      rcases hd with rfl | rfl | rfl | rfl | rfl | rfl
      · exact ⟨_, rfl, fa⟩
      · exact ⟨_, rfl, ⟨by decide, by decide⟩, by show 1 ≤ 5; decide⟩
      · exact ⟨_, rfl, ⟨fi.1, ⟨n0, by omega⟩⟩, by show 2 ≤ 5; decide⟩
      · exact ⟨_, rfl, ⟨fi.1, fa.1⟩, by show 2 ≤ 5; decide⟩
      · exact ⟨_, rfl, ⟨fi.1, ⟨by decide, by decide⟩⟩, by show 2 ≤ 5; decide⟩
      · exact ⟨_, rfl, ⟨fa.1, fi.1, ⟨by decide, by decide⟩⟩, by show 2 ≤ 5; decide⟩

end
end K57
set_option Elab.async false
set_option linter.all false
set_option maxRecDepth 100000
set_option maxHeartbeats 4000000
namespace K57
open PySem PySem.Spec PyProof.Rows L2 XL
/-! ### the law's child, plain -/
def childC (nm : Str) (tk cl : List (Str × Int × Int)) (c0 dz : Str) (df : Gm) (dfl : Bool) (ez : Str) (ef : Gm) (et lk : List Str) (tf : Gm) (il : Option (Str × Bool)) : Cp where
  name := nm
  shape := .line false [.text tf.dat, .button (.str dz)]
  takes := tk.map fun r => (r.1, r.2.1)
  hears := []
  cells := cl
  asks := []
  gives := []
  effs := [(ez, ef, et)]
  deeds := [(dz, [(c0, df)], dfl)]
  looks := lk
  isl := il
theorem child_good {nm : Str} {tk cl : List (Str × Int × Int)} {c0 dz : Str} {df : Gm} {dfl : Bool} {ez : Str} {ef : Gm} {et lk : List Str} {tf : Gm} {il : Option (Str × Bool)} (hn : Lt 1 8 nm) (t1 : Frs (tk.map (·.1)) []) (tl : tk.length ≤ 3) (tb : ∀ r ∈ tk, 1 ≤ r.2.1 ∧ r.2.1 ≤ 4 ∧ 0 ≤ r.2.2 ∧ r.2.2 < r.2.1)
    (c1 : Frs (cl.map (·.1)) (tk.map (·.1))) (cn : cl.length ≤ 12) (cb : ∀ r ∈ cl, 1 ≤ r.2.1 ∧ r.2.1 ≤ 4 ∧ 0 ≤ r.2.2 ∧ r.2.2 < r.2.1) (hc0 : c0 ∈ cl.map (·.1)) (hdz : Lt 1 8 dz) (hdf : GdF ((tk.map (·.1) ++ cl.map (·.1)) ++ (["item"] : List Str)) df) (hez : Lt 1 8 ez) (hef : GdF (tk.map (·.1) ++ cl.map (·.1)) ef)
    (het : et.Sublist (tk.map (·.1) ++ cl.map (·.1))) (hlk : lk.Sublist (tk.map (·.1))) (htf : GdF (tk.map (·.1) ++ cl.map (·.1)) tf) (hil : ∀ r, il = some r → r.1 ∈ (["lost", "kept", "takes"] : List Str)) : GdC (childC nm tk cl c0 dz df dfl ez ef et lk tf il) := by
  have et1 : (childC nm tk cl c0 dz df dfl ez ef et lk tf il).takes.map (·.1) = tk.map (·.1) := by
    show (tk.map fun r => (r.1, r.2.1)).map (·.1) = _
    rw [List.map_map]
    rfl
  have handed : (childC nm tk cl c0 dz df dfl ez ef et lk tf il).handed = tk.map (·.1) := by
    show (childC nm tk cl c0 dz df dfl ez ef et lk tf il).takes.map (·.1) ++ [] = _
    rw [List.append_nil, et1]
  have told : (childC nm tk cl c0 dz df dfl ez ef et lk tf il).told = tk.map (·.1) ++ cl.map (·.1) := by
    show (childC nm tk cl c0 dz df dfl ez ef et lk tf il).handed ++ cl.map (·.1) = _
    rw [handed]
  have names : (childC nm tk cl c0 dz df dfl ez ef et lk tf il).names = tk.map (·.1) ++ cl.map (·.1) := by
    show (childC nm tk cl c0 dz df dfl ez ef et lk tf il).told ++ [] = _
    rw [List.append_nil, told]
  have nd : (tk.map (·.1) ++ cl.map (·.1)).Nodup := by
    rw [List.nodup_append]
    exact ⟨t1.nd, c1.nd, fun a ha b hb e => (c1.no b hb).2.2 (by rw [← e]; exact ha)⟩
  refine ⟨hn, ?_, ?_, ?_, ?_, ?_, ?_, ?_, ?_, ?_, ?_, ?_, ?_, ?_, ?_, ?_, ?_, ?_, ?_, ?_⟩
  · rw [et1]; exact t1
  · refine ⟨by show (tk.map _).length ≤ 3; rw [List.length_map]; exact tl, fun r hr => ?_⟩
    obtain ⟨q, hq, rfl⟩ := List.mem_map.mp hr
    exact ⟨(tb q hq).1, (tb q hq).2.1⟩
  · exact ⟨fun z hz => (nomatch hz), fun z hz => (nomatch hz), List.nodup_nil⟩
  · exact ⟨Nat.zero_le _, fun r hr => (nomatch hr)⟩
  · rw [handed]; exact c1
  · exact ⟨cn, cb⟩
  · exact ⟨fun z hz => (nomatch hz), fun z hz => (nomatch hz), List.nodup_nil⟩
  · exact ⟨Nat.zero_le _, fun r hr => (nomatch hr)⟩
  · exact ⟨fun z hz => (nomatch hz), fun z hz => (nomatch hz), List.nodup_nil⟩
  · exact ⟨Nat.zero_le _, fun r hr => (nomatch hr)⟩
  · refine ⟨fun z hz => ?_, nd1 _⟩
    rw [List.mem_singleton.mp hz]
    exact hez
  · refine ⟨by show 1 ≤ 2; decide, fun r hr => ?_⟩
    rw [List.mem_singleton.mp hr, names]
    exact ⟨hef, nd.sublist het, fun z hz => het.subset hz⟩
  · refine ⟨fun z hz => ?_, nd1 _⟩
    rw [List.mem_singleton.mp hz]
    exact hdz
  · refine ⟨by show 1 ≤ 14; decide, fun r hr => ?_⟩
    rw [List.mem_singleton.mp hr, names]
    refine ⟨⟨by show 1 ≤ 1; decide, by show 1 ≤ 5; decide⟩, nd1 _, fun q hq => ?_⟩
    rw [List.mem_singleton.mp hq]
    exact ⟨hc0, hdf⟩
  · rw [handed]
    exact ⟨t1.nd.sublist hlk, fun z hz => hlk.subset hz⟩
  · exact hil
  · refine .inl (SG.mk (by show 2 ≤ 16; decide) fun p hp => ?_)
    have hp : p ∈ [Sh.text tf.dat, Sh.button (.str dz)] := hp
    simp only [List.mem_cons, List.not_mem_nil, or_false] at hp
    rcases hp with rfl | rfl
    · exact SG.mk ⟨tf, rfl, by rw [names]; exact htf⟩ fun q hq => nomatch hq
    · exact SG.mk ⟨dz, rfl, hdz⟩ fun q hq => nomatch hq
  · show 2 ≤ 5
    decide
  · exact ⟨false, _, rfl⟩
theorem child_cnt {nm : Str} {tk cl : List (Str × Int × Int)} {c0 dz : Str} {df : Gm} {dfl : Bool} {ez : Str} {ef : Gm} {et lk : List Str} {tf : Gm} {il : Option (Str × Bool)} : cnt (childC nm tk cl c0 dz df dfl ez ef et lk tf il).shape ≤ 16 := by
  show (numb (.line false [.text tf.dat, .button (.str dz)])).length ≤ 16
  simp only [numb, numbs, List.length_cons, List.length_append, List.length_nil]
  decide

section
variable {P : Program} {w : World} {K : PySem.W.Frag} {mg : Str → Option Value} {base : Heap}
/-! ### the law's child -/
def spChild (K : PySem.W.Frag) : Sp := fun vs H Q _ => ∃ (G : Hp) (M : List (Addr × HO)) (b : Addr) (o : HO) (u : Addr) (zs : List Str), vs = [.ref b, .ref u] ∧ Sep G ((b, o) :: (u, .lst (zs.map V.str)) :: M) H ∧ Bag G o ∧ (∀ z ∈ zs, Lt 1 8 z) ∧ zs.length ≤ 10 ∧
  ∀ (D : Addr) (ch : Cp) (z : Str) (o' : HO) (G' H' : Hp), Same G G' → PlAt K G' D ch → GdC ch → cnt ch.shape ≤ 16 → Lt 1 8 z → Bag G' o' → Sep G' ((b, o') :: (u, .lst ((zs ++ [z]).map V.str)) :: M) H' → Q (.ref D) H'
theorem ok_child (T : Top K mg w) {k : Nat} (G_pick : FnOk P w K mg base CX0 k T.a_pick T.d_pick ["_law_bag_here", "_law_many"] spPick) (G_near : FnOk P w K mg base CX0 k T.a_near T.d_near ["_law_bag_here", "_law_used"] spNear) (G_blank : FnOk P w K mg base CX0 k T.a_blank T.d_blank ["_law_called"] (spBlank K)) (G_told_rows : FnOk P w K mg base CX0 k T.a_told_rows T.d_told_rows ["_law_bag_here", "_law_used", "_law_many", "_law_triple"] (spTR K))
    (G_turned : FnOk P w K mg base CX0 k T.a_turned T.d_turned ["_law_bag_here", "_law_words_here", "_law_cell", "_law_readable"] (spTurned K)) (G_form : FnOk P w K mg base CX0 k T.a_form T.d_form ["_law_bag_here", "_law_readable", "_law_levels"] (spForm K 2)) (G_some : FnOk P w K mg base CX0 k T.a_some T.d_some ["_law_bag_here", "_law_things"] (spSome K)) : FnOk P w K mg base CX0 (k + 1) T.a_child T.d_child ["_law_bag_here", "_law_used"] (spChild K) := by
  refine T.F_child.ok sc_child (fun vs H Q E h => ?_) (fun cdv A outer s H vs Q E hr h => ?_)
  · obtain ⟨G, M, b, o, u, zs, rfl, _⟩ := h
    rfl
  · obtain ⟨G, M, b, o, u, zs, rfl, S, B, lt, zl, q⟩ := h
    refine ⟨_, (pss_cons (ps_set (i := 2) sc_child.nd rfl (.inl rfl) (pe_call G_blank (hr.mono (by omega)) (by rfl) T.g_blank T.F_blank.kp T.b_blank .nil pass0 (pa_cons (pe_call G_near (hr.mono (by omega)) (by rfl) T.g_near T.F_near.kp T.b_near .nil pass0 (pa_cons (xv 0) (pa_cons (xv 1) pa_nil))) pa_nil)))
      (pss_cons (ps_set (i := 3) sc_child.nd rfl (.inl rfl) (pe_lst pa_nil))
      (pss_cons (ps_dput (hu_of hr) (xv 2) pe_str (pe_call G_told_rows (hr.mono (by omega)) (by rfl) T.g_told_rows T.F_told_rows.kp T.b_told_rows .nil pass0 (pa_cons (xv 0) (pa_cons (xv 3) (pa_cons (pe_call G_pick (hr.mono (by omega)) (by rfl) T.g_pick T.F_pick.kp T.b_pick .nil pass0 (pa_cons (xv 0) (pa_cons pe_int pa_nil))) (pa_cons pe_bl pa_nil))))) rfl)
      (pss_cons (ps_dput (hu_of hr) (xv 2) pe_str (pe_call G_told_rows (hr.mono (by omega)) (by rfl) T.g_told_rows T.F_told_rows.kp T.b_told_rows .nil pass0 (pa_cons (xv 0) (pa_cons (xv 3) (pa_cons pe_int (pa_cons pe_bl pa_nil))))) rfl)
      (pss_cons (ps_dput (hu_of hr) (xv 2) pe_str (pe_tup (pa_cons (pe_call G_turned (hr.mono (by omega)) (by rfl) T.g_turned T.F_turned.kp T.b_turned .nil pass0 (pa_cons (xv 0) (pa_cons (pe_lst pa_nil) (pa_cons (pe_ix (ix_k K) (pe_ix (ix_k K) (pe_dget (hu_of hr) (xv 2) pe_str (fun _ _ => rfl)) pe_int (fun _ _ => rfl)) pe_int (fun _ _ => rfl)) (pa_cons (pe_op op_addY (xv 3) (pe_lst (pa_cons pe_str pa_nil))) pa_nil))))) pa_nil)) rfl)
      (pss_cons (ps_dput (hu_of hr) (xv 2) pe_str (pe_tup (pa_cons (pe_tup (pa_cons (pe_call G_near (hr.mono (by omega)) (by rfl) T.g_near T.F_near.kp T.b_near .nil pass0 (pa_cons (xv 0) (pa_cons (pe_lst pa_nil) pa_nil))) (pa_cons (pe_call G_form (hr.mono (by omega)) (by rfl) T.g_form T.F_form.kp T.b_form .nil pass0 (pa_cons (xv 0) (pa_cons (xv 3) (pa_cons pe_int pa_nil)))) (pa_cons (pe_callTy (call_tupleK K) (by rfl) T.m_tuple (by decide +kernel) (pa_cons (pe_call G_some (hr.mono (by omega)) (by rfl) T.g_some T.F_some.kp T.b_some .nil pass0 (pa_cons (xv 0) (pa_cons (xv 3) pa_nil))) pa_nil)) pa_nil)))) pa_nil)) rfl)
      (pss_cons (ps_dput (hu_of hr) (xv 2) pe_str (pe_callTy (call_tupleK K) (by rfl) T.m_tuple (by decide +kernel) (pa_cons (pe_call G_some (hr.mono (by omega)) (by rfl) T.g_some T.F_some.kp T.b_some .nil pass0 (pa_cons (xv 0) (pa_cons (pe_lc (own := [("_law_row_here", 4)]) (by rfl) sc_child.nd (pi_tupK K (pe_dget (hu_of hr) (xv 2) pe_str (fun _ _ => rfl))) (blkOk_by (N := ["_law_bag_here", "_law_used", "_law_told", "_law_own", "_law_row_here"]) (sc := defScope s_child) (by decide +kernel)) (fun _ _ _ _ _ => (pg_name (i := 4) sc_child.nd rfl (.inl rfl))) (fun _ _ _ _ _ => pts_nil) (fun _ _ _ _ _ => (pe_ix (ix_k K) (xv 4) pe_int (fun _ _ => rfl)))) pa_nil))) pa_nil)) rfl)
      (pss_cons (ps_dput (hu_of hr) (xv 2) pe_str (pe_tup (pa_cons pe_str (pa_cons (pe_tup (pa_cons (pe_tup (pa_cons pe_str (pa_cons (pe_call G_form (hr.mono (by omega)) (by rfl) T.g_form T.F_form.kp T.b_form .nil pass0 (pa_cons (xv 0) (pa_cons (xv 3) (pa_cons pe_int pa_nil)))) pa_nil))) (pa_cons (pe_tup (pa_cons pe_str (pa_cons (pe_ix (ix_k K) (pe_ix (ix_k K) (pe_dget (hu_of hr) (xv 2) pe_str (fun _ _ => rfl)) pe_int (fun _ _ => rfl)) pe_int (fun _ _ => rfl)) pa_nil))) pa_nil))) pa_nil))) rfl)
      (xss_cut (xs_if (xt_cmp (op_eqLK K hr.u190) (pe_call G_pick (hr.mono (by omega)) (by rfl) T.g_pick T.F_pick.kp T.b_pick .nil pass0 (pa_cons (xv 0) (pa_cons pe_int pa_nil))) pe_int (nomark _))
      (pss_one (ps_dput (hu_of hr) (xv 2) pe_str (pe_tup (pa_cons (pe_ix (ix_k K) (pe_lst (pa_cons pe_str (pa_cons pe_str (pa_cons pe_str pa_nil)))) (pe_call G_pick (hr.mono (by omega)) (by rfl) T.g_pick T.F_pick.kp T.b_pick .nil pass0 (pa_cons (xv 0) (pa_cons pe_int pa_nil))) (fun _ _ => rfl)) (pa_cons (pe_cmpR (op_eqLK K hr.u190) (pe_call G_pick (hr.mono (by omega)) (by rfl) T.g_pick T.F_pick.kp T.b_pick .nil pass0 (pa_cons (xv 0) (pa_cons pe_int pa_nil))) pe_int (nomark _)) pa_nil))) rfl))
      pss_nil)
      (pss_one (ps_ret (xv 2)))))))))))), ?_⟩
    have lk : ∀ (c : Cp) (o : Fs), (o.k c).length < sizeLine := fun c o => smallL (by rw [Fs.k_len]; decide)
    refine ⟨G, M, b, o, u, zs, rfl, S, B, lt, by omega, fun z o1 G1 H1 s1 z1 z2 z3 z4 B1 S1 => ⟨G1, _, z, rfl, S1, fun D f G2 H2 s2 fa S2 => ⟨sz, fun O nO => ?_⟩⟩⟩
    have S3 := (S2.new (o := .lst ([].map V.str)) nO).perm (List.perm_append_comm_assoc [_, _] [_] _)
    -- takes
    refine ⟨G2, _, b, o1, 4, rfl, S3, B1.same s2, by decide, by decide, fun m o3 H3 m0 m4 B3 S4 => ?_⟩
    obtain ⟨mn, rfl⟩ := Int.eq_ofNat_of_zero_le m0
    refine ⟨G2, _, b, o3, O, [], mn, false, rfl, S4, B3, fun z hz => (nomatch hz), by simp only [List.length_nil]; omega, fun v1 tk o5 G5 H5 s5 d5 tl ft1 tb B5 S5 => ?_⟩
    refine ⟨D, _, rfl, DPut.k (k := Sum.inr "takes") (S5.at (List.mem_cons_of_mem _ (List.mem_cons_of_mem _ List.mem_cons_self))) (lk _ _), ?_⟩
    rw [Fs.pk_takes]
    have S5 : Sep G5 ((b, o5) :: (O, .lst ((tk.map (·.1)).map V.str)) :: (D, .dK (({ f with tk := v1 } : Fs).k (blankC z))) :: (u, .lst ((zs ++ [z]).map V.str)) :: M) _ := S5.setAt (i := 2) (o' := .dK (({ f with tk := v1 } : Fs).k (blankC z))) rfl
    -- cells
    refine ⟨G5, _, b, o5, O, tk.map (·.1), 1, true, rfl, S5, B5, ft1.lt, by rw [List.length_map]; omega, fun v2 cl o6 G6 H6 s6 d6 cn c1 cb B6 S6 => ?_⟩
    refine ⟨D, _, rfl, DPut.k (k := Sum.inr "cells") (S6.at (List.mem_cons_of_mem _ (List.mem_cons_of_mem _ List.mem_cons_self))) (lk _ _), ?_⟩
    rw [Fs.pk_cells]
    have S6 : Sep G6 ((b, o6) :: (O, .lst ((tk.map (·.1) ++ cl.map (·.1)).map V.str)) :: (D, .dK (({ f with tk := v1, ce := v2 } : Fs).k (blankC z))) :: (u, .lst ((zs ++ [z]).map V.str)) :: M) _ := S6.setAt (i := 2) (o' := .dK (({ f with tk := v1, ce := v2 } : Fs).k (blankC z))) rfl
    obtain ⟨G7, s7, S7, hO⟩ := Sep.keep S6.sw
    have B7 := B6.same s7
    have d5 : Dp K G7 v1 (.tuple ((tk.map fun r => (r.1, r.2.1)).map d2)) := by
      have e : (tk.map fun r => (r.1, r.2.1)).map d2 = tk.map (dR false) := by rw [List.map_map]; rfl
      rw [e]
      exact dp_same (s6.trans s7) d5
    have d6 : Dp K G7 v2 (.tuple (cl.map d3)) := dp_same s7 d6
    have ol : (tk.map (·.1) ++ cl.map (·.1)).length ≤ 4 := by rw [List.length_append, List.length_map, List.length_map]; omega
    obtain ⟨cr, rfl⟩ := List.length_eq_one_iff.mp cn
    obtain ⟨p1, x1, rfl, hp1, hx1⟩ := dp_tup d5
    obtain ⟨p3, x3, rfl, hp3, hx3⟩ := dp_tup d6
    obtain ⟨y3, r3, rfl, hy3, hr3⟩ := dpa_cons hx3
    obtain ⟨p4, x4, rfl, hp4, hx4⟩ := dp_tup hy3
    obtain ⟨y4, r4, rfl, hy4, hr4⟩ := dpa_cons hx4
    obtain rfl := dp_str hy4
    generalize hos : tk.map (·.1) ++ [cr].map (·.1) = os at *
    have mD : ∀ {x : Addr × HO} {y z : Addr × HO} {L : List (Addr × HO)}, y ∈ x :: y :: z :: L := List.mem_cons_of_mem _ List.mem_cons_self
    -- deeds
    refine ⟨sz, fun W nW => ?_⟩
    have S8 := (S7.new (o := .lst ([].map V.str)) nW).sw
    refine ⟨D, _, rfl, Fs.dg_cells (S8.at (List.mem_cons_of_mem _ (List.mem_cons_of_mem _ List.mem_cons_self))), _, _, .inr (S8.t hp3), at0, _, _, .inr (S8.t hp4), at0, sz, fun t1 m1 => ?_⟩
    obtain ⟨G9, s9, S9, h9⟩ := Sep.mk (o := .lst [.str "item"]) S8 m1
    refine ⟨O, t1, _, _, rfl, rfl, S9.st (s9 _ _ hO), S9.st h9, by rw [List.length_map]; exact small (by simp only [List.length_cons, List.length_nil]; omega), fun t2 m2 => ?_⟩
    have e10 : os.map V.str ++ [V.str "item"] = (os ++ (["item"] : List Str)).map V.str := by rw [List.map_append]; rfl
    rw [e10]
    obtain ⟨G10, s10, S10, h10⟩ := Sep.mk (o := .lst ((os ++ (["item"] : List Str)).map V.str)) S9 m2
    have hcr : cr.1 ∈ os := by rw [← hos]; exact List.mem_append_right _ List.mem_cons_self
    refine ⟨G10, _, b, o6, W, [], cr.1, t2, os ++ (["item"] : List Str), rfl, S10, B7.same (s9.trans s10), fun z hz => (nomatch hz), by decide, h10, by rw [List.length_append]; simp only [List.length_cons, List.length_nil]; omega, List.mem_append_left _ hcr, fun v dz df dfl o11 G11 H11 s11 d11 dz1 dz2 gdf B11 S11 => ⟨sz, fun t3 m3 => ?_⟩⟩
    obtain ⟨G12, s12, S12, d12⟩ := dp_mk (K := K) S11.sw.drop m3 (.cons d11 .nil)
    refine ⟨D, _, rfl, DPut.k (k := Sum.inr "deeds") (S12.at (List.mem_cons_of_mem _ List.mem_cons_self)) (lk _ _), ?_⟩
    rw [Fs.pk_deeds]
    have S12 : Sep G12 ((b, o11) :: (D, .dK (({ f with tk := .ref p1, ce := .ref p3, de := .ref t3 } : Fs).k (blankC z))) :: (u, .lst ((zs ++ [z]).map V.str)) :: M) _ := S12.setAt (i := 1) (o' := .dK (({ f with tk := .ref p1, ce := .ref p3, de := .ref t3 } : Fs).k (blankC z))) rfl
    have t712 := s9.trans (s10.trans (s11.trans s12))
    have B12 := B11.same s12
    -- effects
    refine ⟨sz, fun W2 nW2 => ?_⟩
    have S13 := (S12.new (o := .lst ([].map V.str)) nW2).sw
    refine ⟨G12, _, b, o11, W2, [], rfl, S13, B12, fun z hz => (nomatch hz), by decide, fun ez o14 G14 H14 s14 ez1 _ _ _ B14 S14 => ?_⟩
    have S14 := S14.sw.drop
    have hO14 := s14 _ _ (t712 _ _ hO)
    refine ⟨G14, _, b, o14, O, os, 2, rfl, S14, B14, hO14, by omega, by decide, by decide, fun v15 ef o15 G15 H15 s15 hef eok edp B15 S15 => ?_⟩
    refine ⟨G15, _, b, o15, O, os, rfl, S15, B15, SqL.of (s15 _ _ hO14), by omega, fun r16 et o16 G16 H16 s16 h16 het B16 S16 => ?_⟩
    refine ⟨r16, _, rfl, .inl ⟨SqL.of (S16.st h16), fun t5 m5 => ⟨sz, fun t6 m6 => ⟨sz, fun t7 m7 => ?_⟩⟩⟩⟩
    obtain ⟨G17, s17, S17, d17⟩ := dp_mk (K := K) S16 m5 (dpa_of_strs et)
    obtain ⟨G18, s18, S18, d18⟩ := dp_mk (K := K) S17 m6 (.cons (.str ez) (.cons (dp_same (s16.trans s17) (gm_dp hef)) (.cons d17 .nil)))
    obtain ⟨G19, s19, S19, d19⟩ := dp_mk (K := K) S18 m7 (.cons d18 .nil)
    refine ⟨D, _, rfl, DPut.k (k := Sum.inr "effects") (S19.at (List.mem_cons_of_mem _ List.mem_cons_self)) (lk _ _), ?_⟩
    rw [Fs.pk_effects]
    have S19 : Sep G19 ((b, o16) :: (D, .dK (({ f with tk := .ref p1, ce := .ref p3, de := .ref t3, ef := .ref t7 } : Fs).k (blankC z))) :: (u, .lst ((zs ++ [z]).map V.str)) :: M) _ := S19.setAt (i := 1) (o' := .dK (({ f with tk := .ref p1, ce := .ref p3, de := .ref t3, ef := .ref t7 } : Fs).k (blankC z))) rfl
    have t1219 := s14.trans (s15.trans (s16.trans (s17.trans (s18.trans s19))))
    have t719 := t712.trans t1219
    have B19 := B16.same (s17.trans (s18.trans s19))
    -- looks
    refine ⟨D, _, rfl, Fs.dg_takes (S19.at (List.mem_cons_of_mem _ List.mem_cons_self)), p1, rfl, ⟨_, S19.t (same_t t719 hp1)⟩, fun D4 n4 => lc_names S19 n4 (same_t t719 hp1) (dpa_same t719 hx1) (fun r => ⟨_, rfl⟩) (by rw [List.length_map]; omega) (fun G20 H20 s20 S20 => ?_)⟩
    have e20 : (tk.map fun r => (r.1, r.2.1)).map (·.1) = tk.map (·.1) := by rw [List.map_map]; rfl
    rw [e20] at S20
    obtain ⟨G21, s21, S21, h21⟩ := Sep.keep S20
    refine ⟨G21, _, b, o16, D4, tk.map (·.1), rfl, S21, B19.same (s20.trans s21), SqL.of h21, by rw [List.length_map]; omega, fun r22 lks o22 G22 H22 s22 h22 hlk B22 S22 => ?_⟩
    refine ⟨r22, _, rfl, .inl ⟨SqL.of (S22.st h22), fun t8 m8 => ?_⟩⟩
    obtain ⟨G23, s23, S23, d23⟩ := dp_mk (K := K) S22 m8 (dpa_of_strs lks)
    refine ⟨D, _, rfl, DPut.k (k := Sum.inr "looks") (S23.at (List.mem_cons_of_mem _ List.mem_cons_self)) (lk _ _), ?_⟩
    rw [Fs.pk_looks]
    have S23 : Sep G23 ((b, o22) :: (D, .dK (({ f with tk := .ref p1, ce := .ref p3, de := .ref t3, ef := .ref t7, lo := .ref t8 } : Fs).k (blankC z))) :: (u, .lst ((zs ++ [z]).map V.str)) :: M) _ := S23.setAt (i := 1) (o' := .dK (({ f with tk := .ref p1, ce := .ref p3, de := .ref t3, ef := .ref t7, lo := .ref t8 } : Fs).k (blankC z))) rfl
    have t1923 := s20.trans (s21.trans (s22.trans s23))
    have t723 := t719.trans t1923
    -- shape
    refine ⟨G23, _, b, o22, O, os, 2, rfl, S23, B22.same s23, t723 _ _ hO, by omega, by decide, by decide, fun v24 tf o24 G24 H24 s24 htf tok tdp B24 S24 => ⟨sz, fun t9 m9 => ?_⟩⟩
    obtain ⟨G25, s25, S25, d25⟩ := dp_mk (K := K) S24 m9 (.cons (.str "text") (.cons (gm_dp htf) .nil))
    have t1225 := t1219.trans (t1923.trans (s24.trans s25))
    obtain ⟨pd, xd, epd, hpd, hxd⟩ := dp_tup (dp_same t1225 d12)
    cases epd
    obtain ⟨yd, rd, rfl, hyd, hrd⟩ := dpa_cons hxd
    obtain ⟨pe, xe, rfl, hpe, hxe⟩ := dp_tup hyd
    obtain ⟨ye, re, rfl, hye, hre⟩ := dpa_cons hxe
    obtain rfl := dp_str hye
    refine ⟨D, _, rfl, Fs.dg_deeds (S25.at (List.mem_cons_of_mem _ List.mem_cons_self)), _, _, .inr (S25.t hpd), at0, _, _, .inr (S25.t hpe), at0, sz, fun t10 m10 => ⟨sz, fun t11 m11 => ⟨sz, fun t12 m12 => ?_⟩⟩⟩
    obtain ⟨G26, s26, S26, d26⟩ := dp_mk (K := K) (ds := [.str "button", .str dz]) S25 m10 (.cons (.str _) (.cons (.str _) .nil))
    obtain ⟨G27, s27, S27, d27⟩ := dp_mk (K := K) S26 m11 (.cons (dp_same s26 d25) (.cons d26 .nil))
    obtain ⟨G28, s28, S28, d28⟩ := dp_mk (K := K) S27 m12 (.cons (.str "row") (.cons d27 .nil))
    refine ⟨D, _, rfl, DPut.k (k := Sum.inr "shape") (S28.at (List.mem_cons_of_mem _ List.mem_cons_self)) (lk _ _), ?_⟩
    rw [Fs.pk_shape]
    have S28 : Sep G28 ((b, o24) :: (D, .dK (({ f with sh := .ref t12, tk := .ref p1, ce := .ref p3, de := .ref t3, ef := .ref t7, lo := .ref t8 } : Fs).k (blankC z))) :: (u, .lst ((zs ++ [z]).map V.str)) :: M) _ := S28.setAt (i := 1) (o' := .dK (({ f with sh := .ref t12, tk := .ref p1, ce := .ref p3, de := .ref t3, ef := .ref t7, lo := .ref t8 } : Fs).k (blankC z))) rfl
    have t2328 := s24.trans (s25.trans (s26.trans (s27.trans s28)))
    have t728 := t723.trans t2328
    have B28 := B24.same (s25.trans (s26.trans (s27.trans s28)))
    -- island
    refine ⟨fun σ H' => ∃ (v10 : V) (il : Option (Str × Bool)) (o' : HO) (G' : Hp), σ = [some (.ref b), some (.ref u), some (.ref D), some (.ref O), none] ∧ Same G28 G' ∧ Bag G' o' ∧ Sep G' ((b, o') :: (D, .dK (({ f with sh := .ref t12, tk := .ref p1, ce := .ref p3, de := .ref t3, ef := .ref t7, lo := .ref t8, il := v10 } : Fs).k (blankC z))) :: (u, .lst ((zs ++ [z]).map V.str)) :: M) H' ∧ Dp K G' v10 (dIsl il) ∧
      ∀ r, il = some r → r.1 ∈ (["lost", "kept", "takes"] : List Str), ?_, fun σ H29 h => ?_⟩
    · refine ⟨G28, _, b, o24, 2, rfl, S28, B28, by decide, by decide, fun w1 o29 H29 w10 w12 B29 S29 => ⟨fun _ => ⟨sz, fun l n => ?_⟩, fun _ => ?_⟩⟩
      · obtain ⟨G30, s30, S30, h30⟩ := Sep.mk (o := .lst ((["lost", "kept", "takes"] : List Str).map V.str)) S29 n
        refine ⟨G30, _, b, o29, 3, rfl, S30, B29.same s30, by decide, by decide, fun w2 o31 H31 w20 w23 B31 S31 => ?_⟩
        obtain ⟨v, hv, hm⟩ := atI_in (xs := (["lost", "kept", "takes"] : List Str).map V.str) w20 w23
        obtain ⟨iz, hiz, rfl⟩ := List.mem_map.mp hm
        refine ⟨_, _, .inl (SqL.of (S31.st h30)), hv, G30, _, b, o31, 2, rfl, S31, B31, by decide, by decide, fun w3 o32 H32 w30 w32 B32 S32 => ⟨sz, fun t13 m13 => ?_⟩⟩
        obtain ⟨G33, s33, S33, d33⟩ := dp_mk (K := K) S32 m13 (.cons (.str iz) (.cons (.bl (decide (w3 = 0))) .nil))
        refine ⟨D, _, rfl, DPut.k (k := Sum.inr "island") (S33.at (List.mem_cons_of_mem _ List.mem_cons_self)) (lk _ _), ?_⟩
        rw [Fs.pk_island]
        have S33 : Sep G33 ((b, o32) :: (D, .dK (({ f with sh := .ref t12, tk := .ref p1, ce := .ref p3, de := .ref t3, ef := .ref t7, lo := .ref t8, il := .ref t13 } : Fs).k (blankC z))) :: (u, .lst ((zs ++ [z]).map V.str)) :: M) _ := S33.setAt (i := 1) (o' := .dK (({ f with sh := .ref t12, tk := .ref p1, ce := .ref p3, de := .ref t3, ef := .ref t7, lo := .ref t8, il := .ref t13 } : Fs).k (blankC z))) rfl
        exact ⟨.ref t13, some (iz, decide (w3 = 0)), o32, G33, rfl, s30.trans s33, B32.same s33, S33, d33, fun r hr => by cases hr; exact hiz⟩
      · exact ⟨f.il, none, o29, G28, rfl, Same.refl _, B29, S29, dp_same (s5.trans (s6.trans (s7.trans t728))) fa.il, fun r hr => by cases hr⟩
    obtain ⟨v10, il, o30, G30, rfl, s30, B30, S30, d30, hil⟩ := h
    obtain ⟨G31, s31, S31, h31⟩ := Sep.keep S30.sw
    have t2831 := s30.trans s31
    have t731 := t728.trans t2831
    have t231 := s5.trans (s6.trans (s7.trans t731))
    have c1' : Frs ([cr].map (·.1)) (tk.map (·.1)) := c1
    have good : GdC (childC z tk [cr] cr.1 dz df dfl ez ef et lks tf il) := child_good z1 ft1 (by omega) tb c1 (by show 1 ≤ 12; decide) cb List.mem_cons_self dz1 (by rw [hos]; exact gdf) ez1 (by rw [hos]; exact ⟨eok, by omega⟩) (by rw [hos]; exact het) hlk (by rw [hos]; exact ⟨tok, by omega⟩) hil
    refine q D (childC z tk [cr] cr.1 dz df dfl ez ef et lks tf il) z o30 G31 _ (s1.trans (s2.trans t231)) ⟨{ f with sh := .ref t12, tk := .ref p1, ce := .ref p3, de := .ref t3, ef := .ref t7, lo := .ref t8, il := v10 }, h31, ?_⟩ good child_cnt z1 (B30.same s31) S31
    have u28 := t2831
    have u23 := t2328.trans u28
    have u19 := t1923.trans u23
    have u12 := t1219.trans u19
    refine ⟨?_, dp_same t731 (.tup hp1 hx1), dp_same t231 fa.he, dp_same t731 (.tup hp3 (.cons (.tup hp4 (.cons (.str _) hr4)) hr3)), dp_same t231 fa.ak, dp_same t231 fa.gi, dp_same u19 d19, dp_same u12 d12, dp_same u23 d23, dp_same s31 d30⟩
    show Dp K G31 (.ref t12) (toD (.line false [.text tf.dat, .button (.str dz)]))
    simp only [toD, toDs]
    exact dp_same u28 d28

end
end K57
set_option Elab.async false
set_option linter.all false
set_option maxRecDepth 100000
set_option maxHeartbeats 4000000
namespace K57
open PySem PySem.Spec PyProof.Rows L2 XL
/-! ### the law's parent, plain -/
def parentC (nm : Str) (tk hr cl : List (Str × Int × Int)) (gv : List (Str × Int × Gm)) (dd : List (Str × List (Str × Gm) × Bool)) (lk : List Str) (col : Bool) (ps : List Sh) : Cp where
  name := nm
  shape := .line col ps
  takes := tk.map fun r => (r.1, r.2.1)
  hears := hr
  cells := cl
  asks := []
  gives := gv
  effs := []
  deeds := dd
  looks := lk
  isl := none
theorem parent_good {nm : Str} {tk hr cl : List (Str × Int × Int)} {gv : List (Str × Int × Gm)} {dd : List (Str × List (Str × Gm) × Bool)} {lk : List Str} {col : Bool} {ps : List Sh} (hn : Lt 1 8 nm) (t1 : Frs (tk.map (·.1)) []) (tl : tk.length ≤ 3) (tb : ∀ r ∈ tk, 1 ≤ r.2.1 ∧ r.2.1 ≤ 4 ∧ 0 ≤ r.2.2 ∧ r.2.2 < r.2.1)
    (h1 : Frs (hr.map (·.1)) (tk.map (·.1))) (hl : hr.length ≤ 2) (hb : ∀ r ∈ hr, 1 ≤ r.2.1 ∧ r.2.1 ≤ 4 ∧ 0 ≤ r.2.2 ∧ r.2.2 < r.2.1) (c1 : Frs (cl.map (·.1)) (tk.map (·.1) ++ hr.map (·.1))) (cn : cl.length ≤ 12) (cb : ∀ r ∈ cl, 1 ≤ r.2.1 ∧ r.2.1 ≤ 4 ∧ 0 ≤ r.2.2 ∧ r.2.2 < r.2.1)
    (g1 : Frs (gv.map (·.1)) []) (gl : gv.length ≤ 2) (gb : ∀ r ∈ gv, 1 ≤ r.2.1 ∧ r.2.1 ≤ 4 ∧ GdF ((tk.map (·.1) ++ hr.map (·.1)) ++ cl.map (·.1)) r.2.2) (d1 : Wds (dd.map (·.1))) (dl : dd.length ≤ 14)
    (db : ∀ r ∈ dd, ∃ c0 f, r.2.1 = [(c0, f)] ∧ c0 ∈ cl.map (·.1) ∧ GdF (((tk.map (·.1) ++ hr.map (·.1)) ++ cl.map (·.1)) ++ (["item"] : List Str)) f) (hlk : lk.Sublist (tk.map (·.1) ++ hr.map (·.1)))
    (sg : ∀ p ∈ ps, SG ((tk.map (·.1) ++ hr.map (·.1)) ++ cl.map (·.1)) p) (pl : ps.length ≤ 16) (hp : hgts ps ≤ 4) : GdC (parentC nm tk hr cl gv dd lk col ps) := by
  have et1 : (parentC nm tk hr cl gv dd lk col ps).takes.map (·.1) = tk.map (·.1) := by
    show (tk.map fun r => (r.1, r.2.1)).map (·.1) = _
    rw [List.map_map]
    rfl
  have handed : (parentC nm tk hr cl gv dd lk col ps).handed = tk.map (·.1) ++ hr.map (·.1) := by
    show (parentC nm tk hr cl gv dd lk col ps).takes.map (·.1) ++ hr.map (·.1) = _
    rw [et1]
  have told : (parentC nm tk hr cl gv dd lk col ps).told = (tk.map (·.1) ++ hr.map (·.1)) ++ cl.map (·.1) := by
    show (parentC nm tk hr cl gv dd lk col ps).handed ++ cl.map (·.1) = _
    rw [handed]
  have names : (parentC nm tk hr cl gv dd lk col ps).names = (tk.map (·.1) ++ hr.map (·.1)) ++ cl.map (·.1) := by
    show (parentC nm tk hr cl gv dd lk col ps).told ++ [] = _
    rw [List.append_nil, told]
  have nd : (tk.map (·.1) ++ hr.map (·.1)).Nodup := by
    rw [List.nodup_append]
    exact ⟨t1.nd, h1.nd, fun a ha b hb e => (h1.no b hb).2.2 (by rw [← e]; exact ha)⟩
  refine ⟨hn, ?_, ?_, ?_, ⟨hl, hb⟩, ?_, ⟨cn, cb⟩, ?_, ?_, g1, ?_, ?_, ?_, d1, ?_, ?_, ?_, ?_, ?_, ?_⟩
  · rw [et1]; exact t1
  · refine ⟨by show (tk.map _).length ≤ 3; rw [List.length_map]; exact tl, fun r hr => ?_⟩
    obtain ⟨q, hq, rfl⟩ := List.mem_map.mp hr
    exact ⟨(tb q hq).1, (tb q hq).2.1⟩
  · rw [et1]; exact h1
  · rw [handed]; exact c1
  · exact ⟨fun z hz => (nomatch hz), fun z hz => (nomatch hz), List.nodup_nil⟩
  · exact ⟨Nat.zero_le _, fun r hr => (nomatch hr)⟩
  · rw [names]; exact ⟨gl, gb⟩
  · exact ⟨fun z hz => (nomatch hz), List.nodup_nil⟩
  · exact ⟨Nat.zero_le _, fun r hr => (nomatch hr)⟩
  · refine ⟨dl, fun r hr => ?_⟩
    obtain ⟨c0, f, e, m, g⟩ := db r hr
    rw [e, names]
    refine ⟨⟨by show 1 ≤ 1; decide, by show 1 ≤ 5; decide⟩, nd1 _, fun q hq => ?_⟩
    rw [List.mem_singleton.mp hq]
    exact ⟨m, g⟩
  · rw [handed]
    exact ⟨nd.sublist hlk, fun z hz => hlk.subset hz⟩
  · intro r hr
    cases hr
  · rw [names]
    exact .inl (SG.mk (by show ps.length ≤ 16; exact pl) fun p hp => sg p hp)
  · show hgts ps + 1 ≤ 5
    omega
  · exact ⟨col, ps, rfl⟩
theorem dpa_perm {K : PySem.W.Frag} {G : Hp} {us ys : List V} (h : us.Perm ys) : ∀ {ps : List Sh}, DpAll K G us (ps.map toD) → ∃ ps' : List Sh, ps'.Perm ps ∧ DpAll K G ys (ps'.map toD) := by
  induction h with
  | nil =>
    intro ps h
    exact ⟨ps, List.Perm.refl _, h⟩
  | @cons x l1 l2 _ ih =>
    intro ps h
    cases ps with
    | nil => exact nomatch h
    | cons p r =>
      obtain ⟨x', r', e, h1, h2⟩ := dpa_cons h
      cases e
      obtain ⟨r2, pm, h3⟩ := ih h2
      exact ⟨p :: r2, pm.cons p, .cons h1 h3⟩
  | @swap x y l =>
    intro ps h
    cases ps with
    | nil => exact nomatch h
    | cons p r =>
      obtain ⟨x', r', e, h1, h2⟩ := dpa_cons h
      cases e
      cases r with
      | nil => exact nomatch h2
      | cons p2 r2 =>
        obtain ⟨x2, r3, e, h3, h4⟩ := dpa_cons h2
        cases e
        exact ⟨p2 :: p :: r2, List.Perm.swap _ _ _, .cons h3 (.cons h1 h4)⟩
  | trans _ _ ih1 ih2 =>
    intro ps h
    obtain ⟨p1, pm1, h1⟩ := ih1 h
    obtain ⟨p2, pm2, h2⟩ := ih2 h1
    exact ⟨p2, pm2.trans pm1, h2⟩
theorem numbs_perm {a b : List Sh} (h : a.Perm b) : (numbs a).length = (numbs b).length := by
  induction h with
  | nil => rfl
  | cons x _ ih => simp only [numbs, List.length_append, ih]
  | swap x y l => simp only [numbs, List.length_append]; omega
  | trans _ _ h1 h2 => exact h1.trans h2
theorem hgts_perm {a b : List Sh} (h : a.Perm b) : hgts a = hgts b := by
  induction h with
  | nil => rfl
  | cons x _ ih => simp only [hgts, ih]
  | swap x y l => simp only [hgts]; omega
  | trans _ _ h1 h2 => exact h1.trans h2
/-- a comprehension whose elements draw -/
theorem lc_bag {K : PySem.W.Frag} {J : It} {n : Nat} {GW : Hp → Prop} {Y : Nat → Hp → V → Hp → Prop} (wk : Walk J n GW Y) {g : TG} {te : TE} {vs : List Nat} {σ : L2.St} {H1 : Hp} {D b : Addr} {o : HO} {Qd : Hp → Prop} {G : Hp} {M : List (Addr × HO)}
    (S : Sep G ((b, o) :: M) H1) (B : Bag G o) (nD : H1 D = none) (sm : n ≤ 1000) (Pd : Nat → PyData → Prop) (hG : ∀ G' H' o' ws, Same G G' → Sep G' ((b, o') :: (D, .lst ws) :: M) H' → GW H')
    (hs : ∀ (i : Nat) (x : V) G' H' H2 o' ws (R : VK), i < n → Same G G' → Bag G' o' → Sep G' ((b, o') :: (D, .lst ws) :: M) H' → Y i H' x H2 →
      (∀ y d o2 G2 H3, Same G' G2 → Pd i d → Bag G2 o2 → Sep G2 ((b, o2) :: (D, .lst ws) :: M) H3 → Dp K G2 y d → R y H3) →
      g x (wipe σ vs) H2 fun σ2 H2 => wipe σ2 vs = wipe σ vs ∧ te σ2 H2 R)
    (hd : ∀ G' H' o' ws ds, Same G G' → Bag G' o' → Sep G' ((b, o') :: (D, .lst ws) :: M) H' → DpAll K G' ws ds → ds.length = n → (∀ (i : Nat) d, ds[i]? = some d → Pd i d) → Qd H') :
    ∃ W : Nat → Nat → Hp → Prop, (∃ m, W 0 m (upd H1 D (.lst []))) ∧ ∀ i m H, W i m H →
      (J.stop i H ∧ Qd H) ∨ (J.go i H ∧ ∃ Nx : Hp → Prop, (∀ H', Nx H' → ∃ m', m' < m ∧ W (i + 1) m' H') ∧ ∀ x H', J.yld i H x H' → g x (wipe σ vs) H' fun σ2 H2 => wipe σ2 vs = wipe σ vs ∧ tYes σ2 H2 fun b H3 =>
        if b = true then te σ2 H3 fun y H4 => ∃ acc, H4 D = some (.lst acc) ∧ acc.length < sizeLine ∧ Nx (upd H4 D (.lst (acc ++ [y]))) else Nx H3) := by
  refine lc_it wk (fun i H' => i ≤ n ∧ ∃ G' o' ws ds, Same G G' ∧ Bag G' o' ∧ DpAll K G' ws ds ∧ ds.length = i ∧ (∀ (j : Nat) d, ds[j]? = some d → Pd j d) ∧ Sep G' ((b, o') :: (D, .lst ws) :: M) H') ⟨Nat.zero_le _, G, o, [], [], Same.refl _, B, .nil, rfl, fun j d h => by simp at h, (S.new nD).sw⟩ (fun i H' _ h => ?_) (fun i x H' H2 hi h y => ?_) (fun H' h => ?_)
  · obtain ⟨_, G', o', ws, ds, s', _, _, _, _, S'⟩ := h
    exact hG G' H' o' ws s' S'
  · obtain ⟨_, G', o', ws, ds, s', B', hw, dl, hp, S'⟩ := h
    refine hs i x G' H' H2 o' ws _ hi s' B' S' y fun y d o2 G2 H3 s2 pd B2 S2 hy => ?_
    have wl := dpa_len hw
    refine ⟨ws, S2.sw.hd, smallL (by omega), hi, G2, o2, ws ++ [y], ds ++ [d], s'.trans s2, B2, dpa_app (dpa_same s2 hw) (dpa_one hy), by rw [List.length_append, dl]; rfl, fun j e he => ?_, (S2.sw.set).sw⟩
    by_cases hj : j < ds.length
    · rw [List.getElem?_append_left hj] at he
      exact hp j e he
    · rw [List.getElem?_append_right (by omega)] at he
      have : j = i := by
        have := (List.getElem?_eq_some_iff.mp he).1
        simp only [List.length_cons, List.length_nil] at this
        omega
      subst this
      rw [dl, Nat.sub_self] at he
      cases he
      exact pd
  · obtain ⟨_, G', o', ws, ds, s', B', hw, dl, hp, S'⟩ := h
    exact hd G' H' o' ws ds s' B' S' hw dl hp
theorem gv_list {ns : List Str} : ∀ (ds : List PyData) (rs : List (Str × Int × Int)), ds.length = rs.length → (∀ (i : Nat) d, ds[i]? = some d → ∃ r f, rs[i]? = some r ∧ d = dGive (r.1, r.2.1, f) ∧ GdF ns f) →
    ∃ gv : List (Str × Int × Gm), ds = gv.map dGive ∧ gv.map (·.1) = rs.map (·.1) ∧ ∀ r ∈ gv, (∃ q ∈ rs, q.2.1 = r.2.1) ∧ GdF ns r.2.2
  | [], [], _, _ => ⟨[], rfl, rfl, fun r hr => (nomatch hr)⟩
  | d :: ds, q :: rs, hl, h => by
    obtain ⟨gv, e1, e2, e3⟩ := gv_list ds rs (by simpa using hl) fun i d hd => by
      obtain ⟨r, f, h1, h2, h3⟩ := h (i + 1) d (by simpa using hd)
      exact ⟨r, f, by simpa using h1, h2, h3⟩
    obtain ⟨r, f, h1, h2, h3⟩ := h 0 d rfl
    cases h1
    refine ⟨(q.1, q.2.1, f) :: gv, by rw [List.map_cons, ← e1, h2], by rw [List.map_cons, List.map_cons, e2], fun r hr => ?_⟩
    rcases List.mem_cons.mp hr with rfl | hr
    · exact ⟨⟨q, List.mem_cons_self, rfl⟩, h3⟩
    · obtain ⟨⟨q', hq, e⟩, g⟩ := e3 r hr
      exact ⟨⟨q', List.mem_cons_of_mem _ hq, e⟩, g⟩
  | [], _ :: _, hl, _ => by simp at hl
  | _ :: _, [], hl, _ => by simp at hl
theorem bt_list : ∀ (ds : List PyData), (∀ (i : Nat) d, ds[i]? = some d → ∃ z, d = toD (btS z) ∧ Lt 1 8 z) → ∃ zs : List Str, ds = (zs.map btS).map toD ∧ ∀ z ∈ zs, Lt 1 8 z
  | [], _ => ⟨[], rfl, fun z hz => (nomatch hz)⟩
  | d :: ds, h => by
    obtain ⟨zs, e1, e2⟩ := bt_list ds fun i d hd => h (i + 1) d (by simpa using hd)
    obtain ⟨z, h2, h3⟩ := h 0 d rfl
    refine ⟨z :: zs, by rw [List.map_cons, List.map_cons, ← e1, h2], fun y hy => ?_⟩
    rcases List.mem_cons.mp hy with rfl | hy
    · exact h3
    · exact e2 y hy
theorem fm_list {ns : List Str} : ∀ (ds : List PyData), (∀ (i : Nat) d, ds[i]? = some d → FmD ns d) → ∀ d ∈ ds, FmD ns d := fun ds h d hd => by
  obtain ⟨i, hi⟩ := List.getElem?_of_mem hd
  exact h i d hi
/-- the parts while they are gathered -/
structure Pts (ns : List Str) (n : Nat) (ps : List Sh) : Prop where
  sg : ∀ p ∈ ps, SG ns p
  len : ps.length ≤ 3 + n
  num : (numbs ps).length ≤ 5 + n
  hg : hgts ps ≤ 2
theorem Pts.snoc {ns : List Str} {n : Nat} {ps : List Sh} {p : Sh} (h : Pts ns n ps) (hp : SG ns p) (h1 : numb p = [p]) (h2 : hgt p = 1) : Pts ns (n + 1) (ps ++ [p]) := by
  refine ⟨fun x hx => ?_, ?_, ?_, ?_⟩
  · rcases List.mem_append.mp hx with hx | hx
    · exact h.sg x hx
    · rw [List.mem_singleton.mp hx]; exact hp
  · have := h.len
    rw [List.length_append]
    simp only [List.length_cons, List.length_nil]
    omega
  · have := h.num
    rw [numbs_app, numbs_one, h1, List.length_append]
    simp only [List.length_cons, List.length_nil]
    omega
  · have := h.hg
    rw [hgts_app, hgts_one, h2]
    omega
theorem sg_leaf {ns : List Str} {p : Sh} (h : LG ns p) (e : parts p = []) : SG ns p := SG.mk h fun q hq => by rw [e] at hq; cases hq
theorem cutK_from (xs : List V) : cutV xs (some (1 : Int)) none = xs.drop 1 := by
  unfold cutV
  show (xs.drop (HT.sIx xs.length 0 (some ((1 : Nat) : Int)))).take (HT.sIx xs.length xs.length none - HT.sIx xs.length 0 (some ((1 : Nat) : Int))) = _
  rw [HT.sIx_nat, HT.sIx_none]
  by_cases hl : 1 ≤ xs.length
  · rw [Nat.min_eq_left hl]
    exact List.take_of_length_le (by rw [List.length_drop]; exact Nat.le_refl _)
  · have e0 : xs = [] := List.eq_nil_of_length_eq_zero (by omega)
    rw [e0]
    rfl

section
variable {P : Program} {w : World} {K : PySem.W.Frag} {mg : Str → Option Value} {base : Heap}
/-! ### the law's parent -/
def spParent (K : PySem.W.Frag) : Sp := fun vs H Q _ => ∃ (G : Hp) (M : List (Addr × HO)) (b : Addr) (o : HO) (u : Addr) (zs : List Str) (l D1 D2 : Addr) (ch1 ch2 : Cp), vs = [.ref b, .ref u, .ref l] ∧ Sep G ((b, o) :: (u, .lst (zs.map V.str)) :: M) H ∧ Bag G o ∧ (∀ z ∈ zs, Lt 1 8 z) ∧ zs.length ≤ 10 ∧
  G l = some (.lst [.ref D1, .ref D2]) ∧ PlAt K G D1 ch1 ∧ PlAt K G D2 ch2 ∧ GdC ch1 ∧ GdC ch2 ∧
  ∀ (D : Addr) (c : Cp) (z : Str) (o' : HO) (G' H' : Hp), Same G G' → PlAt K G' D c → GdC c → cnt c.shape ≤ 16 → Bag G' o' → Sep G' ((b, o') :: (u, .lst ((zs ++ [z]).map V.str)) :: M) H' → Q (.ref D) H'
theorem ok_parent (T : Top K mg w) {k : Nat} (G_pick : FnOk P w K mg base CX0 k T.a_pick T.d_pick ["_law_bag_here", "_law_many"] spPick) (G_near : FnOk P w K mg base CX0 k T.a_near T.d_near ["_law_bag_here", "_law_used"] spNear) (G_blank : FnOk P w K mg base CX0 k T.a_blank T.d_blank ["_law_called"] (spBlank K)) (G_told_rows : FnOk P w K mg base CX0 k T.a_told_rows T.d_told_rows ["_law_bag_here", "_law_used", "_law_many", "_law_triple"] (spTR K))
    (G_turned : FnOk P w K mg base CX0 k T.a_turned T.d_turned ["_law_bag_here", "_law_words_here", "_law_cell", "_law_readable"] (spTurned K)) (G_form : FnOk P w K mg base CX0 k T.a_form T.d_form ["_law_bag_here", "_law_readable", "_law_levels"] (spForm K 2)) (G_some : FnOk P w K mg base CX0 k T.a_some T.d_some ["_law_bag_here", "_law_things"] (spSome K)) (G_menu : FnOk P w K mg base CX0 k T.a_menu T.d_menu ["_law_bag_here", "_law_most"] (spLMenu K))
    (G_key : FnOk P w K mg base CX0 k T.a_key T.d_key ["_law_bag_here", "_law_weak"] (spLKey K)) (G_mingled : FnOk P w K mg base CX0 k T.a_mingled T.d_mingled ["_law_bag_here", "_law_things"] (spMingled K)) : FnOk P w K mg base CX0 (k + 1) T.a_parent T.d_parent ["_law_bag_here", "_law_used", "_law_children"] (spParent K) := by
  refine T.F_parent.ok sc_parent (fun vs H Q E h => ?_) (fun cdv A outer s H vs Q E hr h => ?_)
  · obtain ⟨G, M, b, o, u, zs, l, D1, D2, ch1, ch2, rfl, _⟩ := h
    rfl
  · obtain ⟨G, M, b, o, u, zs, l, D1, D2, ch1, ch2, rfl, S, B, lt, zl, hl, hD1, hD2, gd1, gd2, q⟩ := h
    refine ⟨_, (pss_cons (ps_set (i := 3) sc_parent.nd rfl (.inr rfl) (pe_call G_blank (hr.mono (by omega)) (by rfl) T.g_blank T.F_blank.kp T.b_blank .nil pass0 (pa_cons (pe_call G_near (hr.mono (by omega)) (by rfl) T.g_near T.F_near.kp T.b_near .nil pass0 (pa_cons (xv 0) (pa_cons (xv 1) pa_nil))) pa_nil)))
      (pss_cons (ps_set (i := 4) sc_parent.nd rfl (.inr rfl) (pe_lst pa_nil))
      (pss_cons (ps_dput (hu_of hr) (xv 3) pe_str (pe_call G_told_rows (hr.mono (by omega)) (by rfl) T.g_told_rows T.F_told_rows.kp T.b_told_rows .nil pass0 (pa_cons (xv 0) (pa_cons (xv 4) (pa_cons (pe_call G_pick (hr.mono (by omega)) (by rfl) T.g_pick T.F_pick.kp T.b_pick .nil pass0 (pa_cons (xv 0) (pa_cons pe_int pa_nil))) (pa_cons pe_bl pa_nil))))) rfl)
      (pss_cons (ps_dput (hu_of hr) (xv 3) pe_str (pe_call G_told_rows (hr.mono (by omega)) (by rfl) T.g_told_rows T.F_told_rows.kp T.b_told_rows .nil pass0 (pa_cons (xv 0) (pa_cons (xv 4) (pa_cons (pe_call G_pick (hr.mono (by omega)) (by rfl) T.g_pick T.F_pick.kp T.b_pick .nil pass0 (pa_cons (xv 0) (pa_cons pe_int pa_nil))) (pa_cons pe_bl pa_nil))))) rfl)
      (pss_cons (ps_dput (hu_of hr) (xv 3) pe_str (pe_call G_told_rows (hr.mono (by omega)) (by rfl) T.g_told_rows T.F_told_rows.kp T.b_told_rows .nil pass0 (pa_cons (xv 0) (pa_cons (xv 4) (pa_cons (pe_op op_addY pe_int (pe_call G_pick (hr.mono (by omega)) (by rfl) T.g_pick T.F_pick.kp T.b_pick .nil pass0 (pa_cons (xv 0) (pa_cons pe_int pa_nil)))) (pa_cons pe_bl pa_nil))))) rfl)
      (xss_cut (ps_dput (hu_of hr) (xv 3) pe_str (pe_callTy (call_tupleK K) (by rfl) T.m_tuple (by decide +kernel) (pa_cons (pe_call G_some (hr.mono (by omega)) (by rfl) T.g_some T.F_some.kp T.b_some .nil pass0 (pa_cons (xv 0) (pa_cons (pe_lc (own := [("_law_row_here", 11)]) (by rfl) sc_parent.nd (pi_tupK K (pe_op (op_catAK K) (pe_dget (hu_of hr) (xv 3) pe_str (fun _ _ => rfl)) (pe_dget (hu_of hr) (xv 3) pe_str (fun _ _ => rfl)))) (blkOk_by (N := ["_law_bag_here", "_law_used", "_law_children", "_law_told", "_law_own", "_law_given", "_law_words_here", "_law_many", "_law_parts_here", "_law_child_here", "_law_forms", "_law_row_here", "_law_step"]) (sc := defScope s_parent) (by decide +kernel)) (fun _ _ _ _ _ => (pg_name (i := 11) sc_parent.nd rfl (.inl rfl))) (fun _ _ _ _ _ => pts_nil) (fun _ _ _ _ _ => (pe_ix (ix_k K) (xv 11) pe_int (fun _ _ => rfl)))) pa_nil))) pa_nil)) rfl)
      (xss_cut (ps_setLc (i := 5) (own := [("_law_row_here", 11)]) (by rfl) sc_parent.nd rfl rfl (sw_true rfl rfl rfl (by decide +kernel)) (pi_tupK K (pe_call G_told_rows (hr.mono (by omega)) (by rfl) T.g_told_rows T.F_told_rows.kp T.b_told_rows .nil pass0 (pa_cons (xv 0) (pa_cons (pe_lst pa_nil) (pa_cons (pe_call G_pick (hr.mono (by omega)) (by rfl) T.g_pick T.F_pick.kp T.b_pick .nil pass0 (pa_cons (xv 0) (pa_cons pe_int pa_nil))) (pa_cons pe_bl pa_nil)))))) (blkOk_by (N := ["_law_bag_here", "_law_used", "_law_children", "_law_told", "_law_own", "_law_given", "_law_words_here", "_law_many", "_law_parts_here", "_law_child_here", "_law_forms", "_law_row_here", "_law_step"]) (sc := defScope s_parent) (by decide +kernel)) (fun _ _ _ _ _ => (pg_name (i := 11) sc_parent.nd rfl (.inl rfl))) (fun _ _ _ _ _ => pts_nil) (fun _ _ _ _ _ => (pe_tup (pa_cons (pe_ix (ix_k K) (xv 11) pe_int (fun _ _ => rfl)) (pa_cons (pe_ix (ix_k K) (xv 11) pe_int (fun _ _ => rfl)) (pa_cons (pe_call G_form (hr.mono (by omega)) (by rfl) T.g_form T.F_form.kp T.b_form .nil pass0 (pa_cons (xv 0) (pa_cons (xv 4) (pa_cons pe_int pa_nil)))) pa_nil))))))
      (pss_cons (ps_dput (hu_of hr) (xv 3) pe_str (pe_callTy (call_tupleK K) (by rfl) T.m_tuple (by decide +kernel) (pa_cons (xv 5) pa_nil)) rfl)
      (pss_cons (ps_set (i := 6) sc_parent.nd rfl (.inr rfl) (pe_lst pa_nil))
      (pss_cons (ps_set (i := 7) sc_parent.nd rfl (.inl rfl) (pe_ix (ix_k K) (pe_lst (pa_cons pe_int (pa_cons pe_int (pa_cons pe_int (pa_cons pe_int (pa_cons pe_int (pa_cons pe_int (pa_cons pe_int pa_nil)))))))) (pe_call G_pick (hr.mono (by omega)) (by rfl) T.g_pick T.F_pick.kp T.b_pick .nil pass0 (pa_cons (xv 0) (pa_cons pe_int pa_nil))) (fun _ _ => rfl)))
      (xss_cut (ps_dput (hu_of hr) (xv 3) pe_str (pe_callTy (call_tupleK K) (by rfl) T.m_tuple (by decide +kernel) (pa_cons (pe_lc (own := [("_law_step", 12)]) (by rfl) sc_parent.nd (pi_range1 (by rfl) T.m_range (pa_cons (xv 7) pa_nil)) (blkOk_by (N := ["_law_bag_here", "_law_used", "_law_children", "_law_told", "_law_own", "_law_given", "_law_words_here", "_law_many", "_law_parts_here", "_law_child_here", "_law_forms", "_law_row_here", "_law_step"]) (sc := defScope s_parent) (by decide +kernel)) (fun _ _ _ _ _ => (pg_name (i := 12) sc_parent.nd rfl (.inl rfl))) (fun _ _ _ _ _ => pts_nil) (fun _ _ _ _ _ => (pe_call G_turned (hr.mono (by omega)) (by rfl) T.g_turned T.F_turned.kp T.b_turned .nil pass0 (pa_cons (xv 0) (pa_cons (xv 6) (pa_cons (pe_ix (ix_k K) (pe_ix (ix_k K) (pe_dget (hu_of hr) (xv 3) pe_str (fun _ _ => rfl)) pe_int (fun _ _ => rfl)) pe_int (fun _ _ => rfl)) (pa_cons (pe_op op_addY (xv 4) (pe_lst (pa_cons pe_str pa_nil))) pa_nil))))))) pa_nil)) rfl)
      (xss_cut (ps_setLc (i := 8) (own := [("_law_step", 12)]) (by rfl) sc_parent.nd rfl rfl (sw_true rfl rfl rfl (by decide +kernel)) (pi_range1 (by rfl) T.m_range (pa_cons (pe_call G_pick (hr.mono (by omega)) (by rfl) T.g_pick T.F_pick.kp T.b_pick .nil pass0 (pa_cons (xv 0) (pa_cons pe_int pa_nil))) pa_nil)) (blkOk_by (N := ["_law_bag_here", "_law_used", "_law_children", "_law_told", "_law_own", "_law_given", "_law_words_here", "_law_many", "_law_parts_here", "_law_child_here", "_law_forms", "_law_row_here", "_law_step"]) (sc := defScope s_parent) (by decide +kernel)) (fun _ _ _ _ _ => (pg_name (i := 12) sc_parent.nd rfl (.inl rfl))) (fun _ _ _ _ _ => pts_nil) (fun _ _ _ _ _ => (pe_tup (pa_cons pe_str (pa_cons (pe_call G_near (hr.mono (by omega)) (by rfl) T.g_near T.F_near.kp T.b_near .nil pass0 (pa_cons (xv 0) (pa_cons (pe_lst pa_nil) pa_nil))) pa_nil)))))
      (xss_cut (xs_if (xt_truK K (xv 8))
      (pss_one (ps_set (i := 8) sc_parent.nd rfl (.inl rfl) (pe_op op_addY (pe_slice (sl_listK K) (xv 8) (po_some pe_int) po_none) (pe_lst (pa_cons (pe_tup (pa_cons pe_str (pa_cons (pe_call G_form (hr.mono (by omega)) (by rfl) T.g_form T.F_form.kp T.b_form .nil pass0 (pa_cons (xv 0) (pa_cons (xv 4) (pa_cons pe_int pa_nil)))) (pa_cons (pe_tup (pa_cons pe_str (pa_cons (pe_tup (pa_cons pe_str (pa_cons (pe_call G_pick (hr.mono (by omega)) (by rfl) T.g_pick T.F_pick.kp T.b_pick .nil pass0 (pa_cons (xv 0) (pa_cons pe_int pa_nil))) pa_nil))) pa_nil))) (pa_cons (pe_ix (ix_k K) (xv 8) pe_int (fun _ _ => rfl)) pa_nil))))) pa_nil)))))
      pss_nil)
      (xss_cut (ps_for PassesOwn.never rfl (pi_listK K (xv 2)) (pg_name (i := 9) sc_parent.nd rfl (.inl rfl))
      (pss_one (xs_if (xt_cmp (op_eqLK K hr.u190) (pe_call G_pick (hr.mono (by omega)) (by rfl) T.g_pick T.F_pick.kp T.b_pick .nil pass0 (pa_cons (xv 0) (pa_cons pe_int pa_nil))) pe_int (nomark _))
      (pss_one (ps_expr (pe_bmK K PySem.F.plainAttrs_list PySem.F.slot_list_append PySem.F.type_list_append mt_append (xv 8) (pa_cons (pe_tup (pa_cons pe_str (pa_cons (pe_dget (hu_of hr) (xv 9) pe_str (fun _ _ => rfl)) (pa_cons (pe_callTy (call_tupleK K) (by rfl) T.m_tuple (by decide +kernel) (pa_cons (pe_lc (own := [("_law_row_here", 11)]) (by rfl) sc_parent.nd (pi_tupK K (pe_dget (hu_of hr) (xv 9) pe_str (fun _ _ => rfl))) (blkOk_by (N := ["_law_bag_here", "_law_used", "_law_children", "_law_told", "_law_own", "_law_given", "_law_words_here", "_law_many", "_law_parts_here", "_law_child_here", "_law_forms", "_law_row_here", "_law_step"]) (sc := defScope s_parent) (by decide +kernel)) (fun _ _ _ _ _ => (pg_name (i := 11) sc_parent.nd rfl (.inl rfl))) (fun _ _ _ _ _ => pts_nil) (fun _ _ _ _ _ => (pe_call G_form (hr.mono (by omega)) (by rfl) T.g_form T.F_form.kp T.b_form .nil pass0 (pa_cons (xv 0) (pa_cons (xv 4) (pa_cons pe_int pa_nil)))))) pa_nil)) pa_nil)))) pa_nil))))
      (pss_cons (ps_set (i := 10) sc_parent.nd rfl (.inl rfl) (pe_callTy (call_tupleK K) (by rfl) T.m_tuple (by decide +kernel) (pa_cons (pe_lc (own := [("_law_row_here", 11)]) (by rfl) sc_parent.nd (pi_tupK K (pe_dget (hu_of hr) (xv 9) pe_str (fun _ _ => rfl))) (blkOk_by (N := ["_law_bag_here", "_law_used", "_law_children", "_law_told", "_law_own", "_law_given", "_law_words_here", "_law_many", "_law_parts_here", "_law_child_here", "_law_forms", "_law_row_here", "_law_step"]) (sc := defScope s_parent) (by decide +kernel)) (fun _ _ _ _ _ => (pg_name (i := 11) sc_parent.nd rfl (.inl rfl))) (fun _ _ _ _ _ => pts_nil) (fun _ _ _ _ _ => (pe_call G_form (hr.mono (by omega)) (by rfl) T.g_form T.F_form.kp T.b_form .nil pass0 (pa_cons (xv 0) (pa_cons (pe_op op_addY (xv 4) (pe_lst (pa_cons pe_str (pa_cons pe_str pa_nil)))) (pa_cons pe_int pa_nil)))))) pa_nil)))
      (pss_one (ps_expr (pe_bmK K PySem.F.plainAttrs_list PySem.F.slot_list_append PySem.F.type_list_append mt_append (xv 8) (pa_cons (pe_tup (pa_cons pe_str (pa_cons (pe_call G_form (hr.mono (by omega)) (by rfl) T.g_form T.F_form.kp T.b_form .nil pass0 (pa_cons (xv 0) (pa_cons (xv 4) (pa_cons pe_int pa_nil)))) (pa_cons (pe_call G_menu (hr.mono (by omega)) (by rfl) T.g_menu T.F_menu.kp T.b_menu .nil pass0 (pa_cons (xv 0) (pa_cons pe_int pa_nil))) (pa_cons (pe_call G_key (hr.mono (by omega)) (by rfl) T.g_key T.F_key.kp T.b_key .nil pass0 (pa_cons (xv 0) (pa_cons pe_bl pa_nil))) (pa_cons (pe_dget (hu_of hr) (xv 9) pe_str (fun _ _ => rfl)) (pa_cons (xv 10) pa_nil))))))) pa_nil))))))))
      (pss_cons (ps_dput (hu_of hr) (xv 3) pe_str (pe_tup (pa_cons (pe_ix (ix_k K) (pe_lst (pa_cons pe_str (pa_cons pe_str pa_nil))) (pe_call G_pick (hr.mono (by omega)) (by rfl) T.g_pick T.F_pick.kp T.b_pick .nil pass0 (pa_cons (xv 0) (pa_cons pe_int pa_nil))) (fun _ _ => rfl)) (pa_cons (pe_callTy (call_tupleK K) (by rfl) T.m_tuple (by decide +kernel) (pa_cons (pe_call G_mingled (hr.mono (by omega)) (by rfl) T.g_mingled T.F_mingled.kp T.b_mingled .nil pass0 (pa_cons (xv 0) (pa_cons (xv 8) pa_nil))) pa_nil)) pa_nil))) rfl)
      (pss_one (ps_ret (xv 3)))))))))))))))))), ?_⟩
    have lk : ∀ (c : Cp) (o : Fs), (o.k c).length < sizeLine := fun c o => smallL (by rw [Fs.k_len]; decide)
    refine ⟨G, M, b, o, u, zs, rfl, S, B, lt, by omega, fun z o1 G1 H1 s1 z1 z2 z3 z4 B1 S1 => ⟨G1, _, z, rfl, S1, fun D f G2 H2 s2 fa S2 => ⟨sz, fun O nO => ?_⟩⟩⟩
    have S3 := (S2.new (o := .lst ([].map V.str)) nO).perm (List.perm_append_comm_assoc [_, _] [_] _)
    -- takes
    refine ⟨G2, _, b, o1, 4, rfl, S3, B1.same s2, by decide, by decide, fun m o3 H3 m0 m4 B3 S4 => ?_⟩
    obtain ⟨mn, rfl⟩ := Int.eq_ofNat_of_zero_le m0
    refine ⟨G2, _, b, o3, O, [], mn, false, rfl, S4, B3, fun z hz => (nomatch hz), by simp only [List.length_nil]; omega, fun v1 tk o5 G5 H5 s5 d5 tl ft1 tb B5 S5 => ?_⟩
    refine ⟨D, _, rfl, DPut.k (k := Sum.inr "takes") (S5.at (List.mem_cons_of_mem _ (List.mem_cons_of_mem _ List.mem_cons_self))) (lk _ _), ?_⟩
    rw [Fs.pk_takes]
    have S5 : Sep G5 ((b, o5) :: (O, .lst ((tk.map (·.1)).map V.str)) :: (D, .dK (({ f with tk := v1 } : Fs).k (blankC z))) :: (u, .lst ((zs ++ [z]).map V.str)) :: M) _ := S5.setAt (i := 2) (o' := .dK (({ f with tk := v1 } : Fs).k (blankC z))) rfl
    -- hears
    refine ⟨G5, _, b, o5, 3, rfl, S5, B5, by decide, by decide, fun m2 o6 H6 m20 m23 B6 S6 => ?_⟩
    obtain ⟨mh, rfl⟩ := Int.eq_ofNat_of_zero_le m20
    refine ⟨G5, _, b, o6, O, tk.map (·.1), mh, true, rfl, S6, B6, ft1.lt, by rw [List.length_map]; omega, fun v2 hr' o7 G7 H7 s7 d7 hl7 h1 hb B7 S7 => ?_⟩
    refine ⟨D, _, rfl, DPut.k (k := Sum.inr "hears") (S7.at (List.mem_cons_of_mem _ (List.mem_cons_of_mem _ List.mem_cons_self))) (lk _ _), ?_⟩
    rw [Fs.pk_hears]
    have S7 : Sep G7 ((b, o7) :: (O, .lst ((tk.map (·.1) ++ hr'.map (·.1)).map V.str)) :: (D, .dK (({ f with tk := v1, he := v2 } : Fs).k (blankC z))) :: (u, .lst ((zs ++ [z]).map V.str)) :: M) _ := S7.setAt (i := 2) (o' := .dK (({ f with tk := v1, he := v2 } : Fs).k (blankC z))) rfl
    -- cells
    refine ⟨G7, _, b, o7, 2, rfl, S7, B7, by decide, by decide, fun m3 o8 H8 m30 m32 B8 S8 => ?_⟩
    obtain ⟨mc, rfl⟩ := Int.eq_ofNat_of_zero_le m30
    refine ⟨G7, _, b, o8, O, tk.map (·.1) ++ hr'.map (·.1), mc + 1, true, ?_, S8, B8, fun z hz => ?_, by rw [List.length_append, List.length_map, List.length_map]; omega, fun v3 cl o9 G9 H9 s9 d9 cn c1 cb B9 S9 => ?_⟩
    · have e : (1 : Int) + (mc : Nat) = ((mc + 1 : Nat) : Int) := by omega
      show [V.ref b, V.ref O, V.int (1 + (mc : Nat)), V.bl true] = _
      rw [e]
    · rcases List.mem_append.mp hz with h | h
      · exact ft1.lt z h
      · exact h1.lt z h
    refine ⟨D, _, rfl, DPut.k (k := Sum.inr "cells") (S9.at (List.mem_cons_of_mem _ (List.mem_cons_of_mem _ List.mem_cons_self))) (lk _ _), ?_⟩
    rw [Fs.pk_cells]
    have S9 : Sep G9 ((b, o9) :: (O, .lst (((tk.map (·.1) ++ hr'.map (·.1)) ++ cl.map (·.1)).map V.str)) :: (D, .dK (({ f with tk := v1, he := v2, ce := v3 } : Fs).k (blankC z))) :: (u, .lst ((zs ++ [z]).map V.str)) :: M) _ := S9.setAt (i := 2) (o' := .dK (({ f with tk := v1, he := v2, ce := v3 } : Fs).k (blankC z))) rfl
    obtain ⟨G10, s10, S10, hO⟩ := Sep.keep S9.sw
    have B10 := B9.same s10
    have d5 : Dp K G10 v1 (.tuple ((tk.map fun r => (r.1, r.2.1)).map d2)) := by
      have e : (tk.map fun r => (r.1, r.2.1)).map d2 = tk.map (dR false) := by rw [List.map_map]; rfl
      rw [e]
      exact dp_same (s7.trans (s9.trans s10)) d5
    have d7 : Dp K G10 v2 (.tuple (hr'.map d3)) := dp_same (s9.trans s10) d7
    have d9 : Dp K G10 v3 (.tuple (cl.map d3)) := dp_same s10 d9
    have ol : ((tk.map (·.1) ++ hr'.map (·.1)) ++ cl.map (·.1)).length ≤ 7 := by rw [List.length_append, List.length_append, List.length_map, List.length_map, List.length_map]; omega
    obtain ⟨p1, x1, rfl, hp1, hx1⟩ := dp_tup d5
    obtain ⟨p2, x2, rfl, hp2, hx2⟩ := dp_tup d7
    obtain ⟨p3, x3, rfl, hp3, hx3⟩ := dp_tup d9
    generalize hos : (tk.map (·.1) ++ hr'.map (·.1)) ++ cl.map (·.1) = os at *
    have clp : 1 ≤ cl.length := by omega
    have l1 := dpa_len hx1
    have l2 := dpa_len hx2
    simp only [List.length_map] at l1 l2
    have mD1 : ∀ {x y z : Addr × HO} {L : List (Addr × HO)}, y ∈ x :: y :: z :: L := List.mem_cons_of_mem _ List.mem_cons_self
    -- looks
    refine ⟨fun σ H' => ∃ (v : V) (lks : List Str) (o' : HO) (G' : Hp), σ = [some (.ref b), some (.ref u), some (.ref l), some (.ref D), some (.ref O), none, none, none, none, none, none, none, none] ∧ Same G10 G' ∧ Bag G' o' ∧ Dp K G' v (strsD lks) ∧ lks.Sublist (tk.map (·.1) ++ hr'.map (·.1)) ∧
      Sep G' ((b, o') :: (D, .dK (({ f with tk := .ref p1, he := .ref p2, ce := .ref p3, lo := v } : Fs).k (blankC z))) :: (u, .lst ((zs ++ [z]).map V.str)) :: M) H', ?_, fun σ H11 h => ?_⟩
    · have key : ∀ (p : Addr) (G1 H1 : Hp) (W : L2.St → Hp → Prop) (En : Ends), En.nx = W → (∀ (v : V) (lks : List Str) (o' : HO) (G' H' : Hp), Same G10 G' → Bag G' o' → Dp K G' v (strsD lks) → lks.Sublist (tk.map (·.1) ++ hr'.map (·.1)) →
          Sep G' ((b, o') :: (D, .dK (({ f with tk := .ref p1, he := .ref p2, ce := .ref p3, lo := v } : Fs).k (blankC z))) :: (u, .lst ((zs ++ [z]).map V.str)) :: M) H' → W [some (.ref b), some (.ref u), some (.ref l), some (.ref D), some (.ref O), none, none, none, none, none, none, none, none] H') →
          Same G10 G1 → Sep G1 ((b, o9) :: (D, .dK (({ f with tk := .ref p1, he := .ref p2, ce := .ref p3 } : Fs).k (blankC z))) :: (u, .lst ((zs ++ [z]).map V.str)) :: M) H1 → SqT K G1 p (x1 ++ x2) →
          sDPut (xVar 3) (tC (V.str (Str.ofString "looks"))) (tCB (yTup K) (tCons (tCall (spSome K) [] E0 (tCons (xVar 0) (tCons (tLc (iTup K (fun σ H Q => Q (.ref p) H)) (gName 11) tYes (tOp (yIx K) (xVar 11) (tC (V.int 0))) (List.map (fun x => x.2) [(Str.ofString "_law_row_here", 11)])) tNil))) tNil)) En
            [some (.ref b), some (.ref u), some (.ref l), some (.ref D), some (.ref O), none, none, none, none, none, none, none, none] H1 := fun p G1 H1 W En hEn fin s1 S1 hp => by
        have hx12 : DpAll K G1 (x1 ++ x2) ((tk.map fun r => (r.1, r.2.1)).map d2 ++ hr'.map d3) := dpa_app (dpa_same s1 hx1) (dpa_same s1 hx2)
        refine ⟨p, rfl, ⟨_, S1.t hp⟩, fun D2 n2 => lc_dpT S1 n2 hp hx12 ((tk.map (·.1) ++ hr'.map (·.1)).map PyData.str) (by simp) (by rw [List.length_append, List.length_map, List.length_map, List.length_map]; omega) (fun i y e d G2 H2 us R he hd1 hxe s2 S2 hR => ?_) (fun G2 H2 us s2 S2 hw => ?_)⟩
        · have ez : ∃ z r, e = .tuple (.str z :: r) ∧ d = .str z := by
            rw [List.map_append, List.map_map, List.map_map] at hd1
            rw [List.map_map] at he
            by_cases hi : i < tk.length
            · rw [List.getElem?_append_left (by rw [List.length_map]; exact hi), List.getElem?_map] at he hd1
              obtain ⟨r, hr1, rfl⟩ := Option.map_eq_some_iff.mp he
              rw [hr1] at hd1
              cases hd1
              exact ⟨_, _, rfl, rfl⟩
            · rw [List.getElem?_append_right (by rw [List.length_map]; omega), List.length_map, List.getElem?_map] at he hd1
              obtain ⟨r, hr1, rfl⟩ := Option.map_eq_some_iff.mp he
              rw [hr1] at hd1
              cases hd1
              exact ⟨_, _, rfl, rfl⟩
          obtain ⟨z', es, rfl, rfl⟩ := ez
          obtain ⟨a, ys, rfl, ha, hy⟩ := dp_tup hxe
          obtain ⟨y1, r1, rfl, hy1, hy⟩ := dpa_cons hy
          exact ⟨rfl, _, _, .inr (S2.t ha), at0, hR _ G2 _ (Same.refl _) S2 hy1⟩
        · obtain rfl := dpa_strs hw
          obtain ⟨G3, s3, S3, h3⟩ := Sep.keep S2
          refine ⟨G3, _, b, o9, D2, tk.map (·.1) ++ hr'.map (·.1), rfl, S3, B10.same (s1.trans (s2.trans s3)), SqL.of h3, by rw [List.length_append, List.length_map, List.length_map]; omega, fun r16 lks o16 G16 H16 s16 h16 hlk B16 S16 => ?_⟩
          refine ⟨r16, _, rfl, .inl ⟨SqL.of (S16.st h16), fun t5 m5 => ?_⟩⟩
          obtain ⟨G17, s17, S17, d17⟩ := dp_mk (K := K) S16 m5 (dpa_of_strs lks)
          refine ⟨D, _, rfl, DPut.k (k := Sum.inr "looks") (S17.at mD1) (lk _ _), ?_⟩
          rw [Fs.pk_looks, hEn]
          exact fin _ lks o16 G17 _ (s1.trans (s2.trans (s3.trans (s16.trans s17)))) (B16.same s17) d17 hlk (S17.setAt (i := 1) (o' := .dK (({ f with tk := .ref p1, he := .ref p2, ce := .ref p3, lo := .ref t5 } : Fs).k (blankC z))) rfl)
      have fin := fun (v : V) (lks : List Str) (o' : HO) (G' H' : Hp) (s' : Same G10 G') (B' : Bag G' o') (d' : Dp K G' v (strsD lks)) (sl : lks.Sublist (tk.map (·.1) ++ hr'.map (·.1)))
        (S' : Sep G' ((b, o') :: (D, .dK (({ f with tk := .ref p1, he := .ref p2, ce := .ref p3, lo := v } : Fs).k (blankC z))) :: (u, .lst ((zs ++ [z]).map V.str)) :: M) H') => (⟨v, lks, o', G', rfl, s', B', d', sl, S'⟩ : ∃ (v : V) (lks : List Str) (o' : HO) (G' : Hp), ([some (.ref b), some (.ref u), some (.ref l), some (.ref D), some (.ref O), none, none, none, none, none, none, none, none] : L2.St) = [some (.ref b), some (.ref u), some (.ref l), some (.ref D), some (.ref O), none, none, none, none, none, none, none, none] ∧ Same G10 G' ∧ Bag G' o' ∧ Dp K G' v (strsD lks) ∧ lks.Sublist (tk.map (·.1) ++ hr'.map (·.1)) ∧
          Sep G' ((b, o') :: (D, .dK (({ f with tk := .ref p1, he := .ref p2, ce := .ref p3, lo := v } : Fs).k (blankC z))) :: (u, .lst ((zs ++ [z]).map V.str)) :: M) H')
      refine ⟨D, _, rfl, Fs.dg_takes (S10.at mD1), D, _, rfl, Fs.dg_hears (S10.at mD1), p1, p2, x1, x2, rfl, rfl, S10.t hp1, S10.t hp2, small (by omega), fun e => ?_, fun _ e => ?_, fun _ _ p np => ?_⟩
      · exact key p2 G10 _ _ _ rfl fin (Same.refl _) S10 (by rw [e]; exact hp2)
      · exact key p1 G10 _ _ _ rfl fin (Same.refl _) S10 (by rw [e, List.append_nil]; exact hp1)
      · obtain ⟨G3, s3, S3, h3⟩ := Sep.mk (o := .tup (x1 ++ x2)) S10 np
        exact key p G3 _ _ _ rfl fin s3 S3 (SqT.of h3)
    obtain ⟨vlo, lks, o11, G11, rfl, s11, B11, dlo, hlk, S11⟩ := h
    have hO11 := s11 _ _ hO
    -- given
    refine ⟨fun σ H' => ∃ (Dg : Addr) (us : List V) (gv : List (Str × Int × Gm)) (o' : HO) (G' : Hp), σ = [some (.ref b), some (.ref u), some (.ref l), some (.ref D), some (.ref O), some (.ref Dg), none, none, none, none, none, none, none] ∧ Same G11 G' ∧ Bag G' o' ∧ G' Dg = some (.lst us) ∧ DpAll K G' us (gv.map dGive) ∧ gv.length ≤ 2 ∧ Frs (gv.map (·.1)) [] ∧ (∀ r ∈ gv, 1 ≤ r.2.1 ∧ r.2.1 ≤ 4 ∧ GdF os r.2.2) ∧
      Sep G' ((b, o') :: (D, .dK (({ f with tk := .ref p1, he := .ref p2, ce := .ref p3, lo := vlo } : Fs).k (blankC z))) :: (u, .lst ((zs ++ [z]).map V.str)) :: M) H', ?_, fun σ H12 h => ?_⟩
    · refine ⟨sz, fun W nW => ?_⟩
      have S12 := (S11.new (o := .lst ([].map V.str)) nW).sw
      refine ⟨G11, _, b, o11, 3, rfl, S12, B11, by decide, by decide, fun m4 o13 H13 m40 m43 B13 S13 => ?_⟩
      obtain ⟨mg', rfl⟩ := Int.eq_ofNat_of_zero_le m40
      refine ⟨G11, _, b, o13, W, [], mg', false, rfl, S13, B13, fun z hz => (nomatch hz), by simp only [List.length_nil]; omega, fun v14 rs o14 G14 H14 s14 d14 rl14 fr14 rb14 B14 S14 => ?_⟩
      have S14 := S14.sw.drop
      obtain ⟨pr, xr, rfl, hpr, hxr⟩ := dp_tup d14
      have xrl := dpa_len hxr
      rw [List.length_map] at xrl
      refine ⟨pr, rfl, ⟨_, S14.t hpr⟩, fun Dg nDg => lc_bag (K := K) (walk_tup (xs := xr)) S14 B14 nDg (by omega) (fun i d => ∃ r f, rs[i]? = some r ∧ d = dGive (r.1, r.2.1, f) ∧ GdF os f) (fun G' H' o' ws s' S' => S'.t (same_t s' hpr)) (fun i y G' H' H2 o' ws R hi s' B' S' yy hR => ?_) (fun G' H' o' ws ds s' B' S' hw dl hp => ?_)⟩
      · obtain ⟨rfl, hy⟩ := yy
        obtain ⟨d, hd, hyd⟩ := dpa_get hxr hy
        rw [List.getElem?_map] at hd
        obtain ⟨r, hr1, rfl⟩ := Option.map_eq_some_iff.mp hd
        obtain ⟨a, ys, rfl, ha, hys⟩ := dp_tup (ds := [.str r.1, .int r.2.1]) (dp_same s' hyd)
        obtain ⟨y1, r1, rfl, hy1, hys⟩ := dpa_cons hys
        obtain ⟨y2, r2, rfl, hy2, hys⟩ := dpa_cons hys
        refine ⟨rfl, _, _, .inr (S'.t ha), at0, _, _, .inr (S'.t ha), atI_nat (j := 1) rfl, G', _, b, o', O, os, 2, rfl, S', B', s' _ _ (s14 _ _ hO11), by omega, by decide, by decide, fun vf fm o3 G3 H3 s3 hf fok fdp B3 S3 => ⟨sz, fun t nt => ?_⟩⟩
        obtain ⟨G4, s4, S4, d4⟩ := dp_mk (K := K) S3 nt (.cons (dp_same s3 hy1) (.cons (dp_same s3 hy2) (.cons (gm_dp hf) .nil)))
        exact hR _ (dGive (r.1, r.2.1, fm)) o3 G4 _ (s3.trans s4) ⟨r, fm, hr1, rfl, ⟨fok, by omega⟩⟩ (B3.same s4) S4 d4
      · obtain ⟨gv, e1, e2, e3⟩ := gv_list ds rs (by omega) hp
        obtain ⟨G5, s5', S5', h5⟩ := Sep.keep S'.sw
        have gl : gv.length = rs.length := by
          have := congrArg List.length e2
          rw [List.length_map, List.length_map] at this
          exact this
        refine ⟨Dg, ws, gv, o', G5, rfl, s14.trans (s'.trans s5'), B'.same s5', h5, by rw [← e1]; exact dpa_same s5' hw, by omega, by rw [e2]; exact fr14, fun r hr => ?_, S5'⟩
        obtain ⟨⟨q', hq, e⟩, g⟩ := e3 r hr
        have := rb14 q' hq
        rw [e] at this
        exact ⟨this.1, this.2.1, g⟩
    obtain ⟨Dg, usg, gv, o12, G12, rfl, s12, B12, hDg, dgv, gvl, gfr, gvb, S12⟩ := h
    -- gives
    refine ⟨Dg, usg, rfl, .inl ⟨SqL.of (S12.st hDg), fun t1 m1 => ?_⟩⟩
    obtain ⟨G13, s13, S13, d13⟩ := dp_mk (K := K) S12 m1 dgv
    refine ⟨D, _, rfl, DPut.k (k := Sum.inr "gives") (S13.at mD1) (lk _ _), ?_⟩
    rw [Fs.pk_gives]
    have S13 : Sep G13 ((b, o12) :: (D, .dK (({ f with tk := .ref p1, he := .ref p2, ce := .ref p3, gi := .ref t1, lo := vlo } : Fs).k (blankC z))) :: (u, .lst ((zs ++ [z]).map V.str)) :: M) _ := S13.setAt (i := 1) (o' := .dK (({ f with tk := .ref p1, he := .ref p2, ce := .ref p3, gi := .ref t1, lo := vlo } : Fs).k (blankC z))) rfl
    have t1013 := s11.trans (s12.trans s13)
    have hO13 := t1013 _ _ hO
    -- words, many
    refine ⟨sz, fun W nW => ⟨sz, fun t2 m2 => ?_⟩⟩
    have S14 := (S13.new (o := .lst ([].map V.str)) nW).sw
    obtain ⟨G15, s15, S15, h15⟩ := Sep.mk (o := .lst (([0, 1, 2, 3, 8, 9, 14] : List Int).map V.int)) S14 m2
    refine ⟨G15, _, b, o12, 7, rfl, S15, (B12.same s13).same s15, by decide, by decide, fun x o16 H16 x0 x7 B16 S16 => ?_⟩
    obtain ⟨v, hv, hm⟩ := atI_in (xs := (([0, 1, 2, 3, 8, 9, 14] : List Int).map V.int)) x0 x7
    obtain ⟨my, hmy, rfl⟩ := List.mem_map.mp hm
    have hmn : ∃ mn : Nat, my = (mn : Int) ∧ mn ≤ 14 := by
      simp only [List.mem_cons, List.not_mem_nil, or_false] at hmy
      rcases hmy with rfl | rfl | rfl | rfl | rfl | rfl | rfl
      · exact ⟨0, rfl, by decide⟩
      · exact ⟨1, rfl, by decide⟩
      · exact ⟨2, rfl, by decide⟩
      · exact ⟨3, rfl, by decide⟩
      · exact ⟨8, rfl, by decide⟩
      · exact ⟨9, rfl, by decide⟩
      · exact ⟨14, rfl, by decide⟩
    obtain ⟨mm, rfl, mm14⟩ := hmn
    refine ⟨_, _, .inl (SqL.of (S16.st h15)), hv, ?_⟩
    -- the first cell
    obtain ⟨c0, cr, rfl⟩ : ∃ c0 cr, cl = c0 :: cr := by
      cases cl with
      | nil => simp at clp
      | cons a r => exact ⟨a, r, rfl⟩
    have hx3' := hx3
    obtain ⟨y3, r3, rfl, hy3, hr3⟩ := dpa_cons hx3'
    obtain ⟨p4, x4, rfl, hp4, hx4⟩ := dp_tup hy3
    obtain ⟨y4, r4, rfl, hy4, hr4⟩ := dpa_cons hx4
    obtain rfl := dp_str hy4
    have hc0 : c0.1 ∈ os := by rw [← hos]; exact List.mem_append_right _ List.mem_cons_self
    have t1015 := t1013.trans s15
    -- deeds
    refine ⟨fun σ H' => ∃ (v : V) (dd : List (Str × List (Str × Gm) × Bool)) (wds : List Str) (o' : HO) (G' : Hp), σ = [some (.ref b), some (.ref u), some (.ref l), some (.ref D), some (.ref O), some (.ref Dg), some (.ref W), some (.int (mm : Nat)), none, none, none, none, none] ∧ Same G15 G' ∧ Bag G' o' ∧ Dp K G' v (.tuple (dd.map dDeed)) ∧ dd.length ≤ 14 ∧ Wds (dd.map (·.1)) ∧ (∀ r ∈ dd, ∃ c1 f, r.2.1 = [(c1, f)] ∧ c1 = c0.1 ∧ GdF (os ++ (["item"] : List Str)) f) ∧
      Sep G' ((b, o') :: (D, .dK (({ f with tk := .ref p1, he := .ref p2, ce := .ref p3, gi := .ref t1, de := v, lo := vlo } : Fs).k (blankC z))) :: (u, .lst ((zs ++ [z]).map V.str)) :: M) H', ?_, fun σ H17 h => ?_⟩
    · refine ⟨_, rfl, by omega, by omega, fun Dd nDd => lc_it (walk_range (lo := 0) (n := ((mm : Nat) : Int).toNat)) (fun i H' => i ≤ mm ∧ ∃ (o' : HO) (G' : Hp) (us : List V) (dd : List (Str × List (Str × Gm) × Bool)), Same G15 G' ∧ Bag G' o' ∧ DpAll K G' us (dd.map dDeed) ∧ dd.length = i ∧ Wds (dd.map (·.1)) ∧ (∀ r ∈ dd, ∃ c1 f, r.2.1 = [(c1, f)] ∧ c1 = c0.1 ∧ GdF (os ++ (["item"] : List Str)) f) ∧
        Sep G' ((b, o') :: (W, .lst ((dd.map (·.1)).map V.str)) :: (Dd, .lst us) :: (D, .dK (({ f with tk := .ref p1, he := .ref p2, ce := .ref p3, gi := .ref t1, lo := vlo } : Fs).k (blankC z))) :: (u, .lst ((zs ++ [z]).map V.str)) :: M) H') ?_ (fun _ _ _ _ => trivial) (fun i y H' H2 hi h yy => ⟨rfl, ?_⟩) (fun H' h => ?_)⟩
      · exact ⟨Nat.zero_le _, o16, G15, [], [], Same.refl _, B16, .nil, rfl, ⟨fun z hz => (nomatch hz), List.nodup_nil⟩, fun r hr => (nomatch hr), (S16.new nDd).perm (List.perm_append_comm_assoc [_] [_, _] _)⟩
      · obtain ⟨rfl, rfl⟩ := yy
        obtain ⟨_, o', G', us, dd, s', B', du, dl, wd', hdd, S'⟩ := h
        have ul := dpa_len du
        rw [List.length_map] at ul
        have t' := t1015.trans s'
        refine ⟨D, _, rfl, Fs.dg_cells (S'.at (List.mem_cons_of_mem _ (List.mem_cons_of_mem _ (List.mem_cons_of_mem _ List.mem_cons_self)))), _, _, .inr (S'.t (same_t t' hp3)), at0, _, _, .inr (S'.t (same_t t' hp4)), at0, sz, fun t3 m3 => ?_⟩
        obtain ⟨G3, s3, S3, h3⟩ := Sep.mk (o := .lst [.str "item"]) S' m3
        refine ⟨O, t3, _, _, rfl, rfl, S3.st (s3 _ _ (s' _ _ (s15 _ _ hO13))), S3.st h3, by rw [List.length_map]; exact small (by simp only [List.length_cons, List.length_nil]; omega), fun t4 m4 => ?_⟩
        have e4 : os.map V.str ++ [V.str "item"] = (os ++ (["item"] : List Str)).map V.str := by rw [List.map_append]; rfl
        rw [e4]
        obtain ⟨G4, s4, S4, h4⟩ := Sep.mk (o := .lst ((os ++ (["item"] : List Str)).map V.str)) S3 m4
        refine ⟨G4, _, b, o', W, dd.map (·.1), c0.1, t4, os ++ (["item"] : List Str), rfl, S4, B'.same (s3.trans s4), wd'.lt, by rw [List.length_map]; omega, h4, by rw [List.length_append]; simp only [List.length_cons, List.length_nil]; omega, List.mem_append_left _ hc0, fun v dz df dfl o5 G5 H5 s5' d5 dz1 dz2 gdf B5 S5 => ?_⟩
        have SD := S5.perm (List.perm_append_comm_assoc [_, _] [_] _)
        refine ⟨us, SD.hd, smallL (by omega), by omega, o5, G5, us ++ [v], dd ++ [(dz, [(c0.1, df)], dfl)], s'.trans (s3.trans (s4.trans s5')), B5, ?_, by rw [List.length_append, dl]; rfl, ?_, fun r hr => ?_, ?_⟩
        · rw [List.map_append]
          exact dpa_app (dpa_same (s3.trans (s4.trans s5')) du) (dpa_one d5)
        · rw [List.map_append]
          refine ⟨fun y hy => ?_, ?_⟩
          · rcases List.mem_append.mp hy with h | h
            · exact wd'.lt y h
            · rw [List.mem_singleton.mp h]; exact dz1
          · rw [List.nodup_append]
            exact ⟨wd'.nd, nd1 _, fun a ha c hc e => dz2 (by have hc : c = dz := List.mem_singleton.mp hc; rw [← hc, ← e]; exact ha)⟩
        · rcases List.mem_append.mp hr with h | h
          · exact hdd r h
          · rw [List.mem_singleton.mp h]
            exact ⟨_, _, rfl, rfl, gdf⟩
        · have z := (SD.set (o' := .lst (us ++ [v]))).perm (List.perm_append_comm_assoc [_] [_, _] _)
          rw [List.map_append]
          exact z
      · obtain ⟨_, o', G', us, dd, s', B', du, dl, wd', hdd, S'⟩ := h
        have SD := S'.perm (List.perm_append_comm_assoc [_, _] [_] _)
        refine ⟨Dd, us, rfl, .inl ⟨SqL.of SD.hd, fun t3 m3 => ?_⟩⟩
        obtain ⟨G3, s3, S3, d3'⟩ := dp_mk (K := K) SD m3 du
        have S3 := S3.drop.sw.drop
        refine ⟨D, _, rfl, DPut.k (k := Sum.inr "deeds") (S3.at mD1) (lk _ _), ?_⟩
        rw [Fs.pk_deeds]
        exact ⟨_, dd, [], o', G3, rfl, s'.trans s3, B'.same s3, d3', by omega, wd', hdd, S3.setAt (i := 1) (o' := .dK (({ f with tk := .ref p1, he := .ref p2, ce := .ref p3, gi := .ref t1, de := .ref t3, lo := vlo } : Fs).k (blankC z))) rfl⟩
    obtain ⟨vde, dd, _, o17, G17, rfl, s17, B17, dde, ddl, ddw, ddb, S17⟩ := h
    have t1017 := t1015.trans s17
    have hO17 := t1017 _ _ hO
    -- buttons
    refine ⟨fun σ H' => ∃ (D8 : Addr) (us : List V) (bs : List Str) (o' : HO) (G' : Hp), σ = [some (.ref b), some (.ref u), some (.ref l), some (.ref D), some (.ref O), some (.ref Dg), some (.ref W), some (.int (mm : Nat)), some (.ref D8), none, none, none, none] ∧ Same G17 G' ∧ Bag G' o' ∧ DpAll K G' us ((bs.map btS).map toD) ∧ bs.length ≤ 3 ∧ (∀ z ∈ bs, Lt 1 8 z) ∧
      Sep G' ((b, o') :: (D8, .lst us) :: (D, .dK (({ f with tk := .ref p1, he := .ref p2, ce := .ref p3, gi := .ref t1, de := vde, lo := vlo } : Fs).k (blankC z))) :: (u, .lst ((zs ++ [z]).map V.str)) :: M) H', ?_, fun σ H18 h => ?_⟩
    · refine ⟨G17, _, b, o17, 4, rfl, S17, B17, by decide, by decide, fun mb o18 H18 mb0 mb4 B18 S18 => ?_⟩
      refine ⟨_, rfl, by omega, by omega, fun D8 n8 => lc_bag (K := K) (walk_range (lo := 0) (n := mb.toNat)) S18 B18 n8 (by omega) (fun i d => ∃ z, d = toD (btS z) ∧ Lt 1 8 z) (fun _ _ _ _ _ _ => trivial) (fun i y G' H' H2 o' ws R hi s' B' S' yy hR => ?_) (fun G' H' o' ws ds s' B' S' hw dl hp => ?_)⟩
      · obtain ⟨rfl, rfl⟩ := yy
        refine ⟨rfl, sz, fun W2 nW2 => ?_⟩
        have S2 := (S'.new (o := .lst ([].map V.str)) nW2).sw
        refine ⟨G', _, b, o', W2, [], rfl, S2, B', fun z hz => (nomatch hz), by decide, fun bz o3 G3 H3 s3 bz1 _ _ _ B3 S3 => ⟨sz, fun t nt => ?_⟩⟩
        obtain ⟨G4, s4, S4, d4⟩ := dp_mk (K := K) (ds := [.str "button", .str bz]) S3.sw.drop nt (.cons (.str _) (.cons (.str _) .nil))
        exact hR _ (toD (btS bz)) o3 G4 _ (s3.trans s4) ⟨bz, rfl, bz1⟩ (B3.same s4) S4 d4
      · obtain ⟨bs, e1, e2⟩ := bt_list ds hp
        have bl : bs.length = ds.length := by rw [e1, List.length_map, List.length_map]
        exact ⟨D8, ws, bs, o', G', rfl, s', B', by rw [← e1]; exact hw, by omega, e2, S'⟩
    obtain ⟨D7, us7, bs, o18, G18, rfl, s18, B18, du7, bl, bz, S18⟩ := h
    have t1018 := t1017.trans s18
    have hO18 := t1018 _ _ hO
    have sgb : ∀ {x : Str}, x ∈ bs → SG os (btS x) := fun hx => sg_leaf ⟨_, rfl, bz _ hx⟩ rfl
    have nb : ∀ l : List Str, numbs (l.map btS) = l.map btS := fun l => numbs_leaf fun p hp => by
      obtain ⟨z, _, rfl⟩ := List.mem_map.mp hp
      simp only [btS, numb]
    have hb1 : ∀ l : List Str, hgts (l.map btS) ≤ 1 := fun l => hgts_one_le fun p hp => by
      obtain ⟨z, _, rfl⟩ := List.mem_map.mp hp
      rfl
    have ul7 := dpa_len du7
    simp only [List.length_map] at ul7
    -- when
    refine ⟨fun σ H' => ∃ (D8 : Addr) (us : List V) (ps : List Sh) (o' : HO) (G' : Hp), σ = [some (.ref b), some (.ref u), some (.ref l), some (.ref D), some (.ref O), some (.ref Dg), some (.ref W), some (.int (mm : Nat)), some (.ref D8), none, none, none, none] ∧ Same G18 G' ∧ Bag G' o' ∧ DpAll K G' us (ps.map toD) ∧ Pts os 0 ps ∧
      Sep G' ((b, o') :: (D8, .lst us) :: (D, .dK (({ f with tk := .ref p1, he := .ref p2, ce := .ref p3, gi := .ref t1, de := vde, lo := vlo } : Fs).k (blankC z))) :: (u, .lst ((zs ++ [z]).map V.str)) :: M) H', ?_, fun σ H19 h => ?_⟩
    · refine ⟨!us7.isEmpty, .inl ⟨us7, SqL.of S18.sw.hd, rfl⟩, fun e => ?_, fun e => ?_⟩
      · obtain ⟨b0, br, rfl⟩ : ∃ b0 br, bs = b0 :: br := by
          cases bs with
          | nil =>
            have : us7 = [] := List.eq_nil_of_length_eq_zero (by simpa using ul7)
            rw [this] at e
            exact nomatch e
          | cons a r => exact ⟨a, r, rfl⟩
        obtain ⟨v0, us', rfl, dv0, du'⟩ := dpa_cons du7
        refine ⟨_, rfl, D7, _, rfl, SqL.of S18.sw.hd, fun t2 m2 => ?_⟩
        rw [cutK_from]
        obtain ⟨G19, s19, S19, h19⟩ := Sep.mk (o := .lst us') S18 m2
        refine ⟨G19, _, b, o18, O, os, 2, rfl, S19, B18.same s19, s19 _ _ hO18, by omega, by decide, by decide, fun vf fm o20 G20 H20 s20 hf fok fdp B20 S20 => ?_⟩
        refine ⟨G20, _, b, o20, 10, rfl, S20, B20, by decide, by decide, fun n o21 H21 n0 n9 B21 S21 => ⟨sz, fun t3 m3 => ⟨sz, fun t4 m4 => ?_⟩⟩⟩
        obtain ⟨G22, s22, S22, d22⟩ := dp_mk (K := K) (ds := [.str "is", .int n]) S21 m3 (.cons (.str _) (.cons (.int _) .nil))
        obtain ⟨G23, s23, S23, d23⟩ := dp_mk (K := K) (ds := [.str "text", (Gm.is n).dat]) S22 m4 (.cons (.str _) (.cons d22 .nil))
        have t1923 := s20.trans (s22.trans s23)
        refine ⟨_, _, .inl (SqL.of S23.sw.hd), at0, sz, fun t5 m5 => ⟨sz, fun t6 m6 => ?_⟩⟩
        obtain ⟨G24, s24, S24, d24⟩ := dp_mk (K := K) S23 m5 (.cons (.str "when") (.cons (dp_same (s22.trans s23) (gm_dp hf)) (.cons d23 (.cons (dp_same (s19.trans t1923) dv0) .nil))))
        obtain ⟨G25, s25, S25, h25⟩ := Sep.mk (o := .lst [.ref t5]) S24 m6
        have ul' : us'.length ≤ 2 := by simp only [List.length_cons] at ul7 bl; omega
        refine ⟨t2, t6, _, _, rfl, rfl, S25.st (s25 _ _ (s24 _ _ (t1923 _ _ h19))), S25.st h25, small (by simp only [List.length_cons, List.length_nil]; omega), fun D8 m8 => ?_⟩
        have S26 := (S25.sw.drop.new (o := .lst (us' ++ [.ref t5])) m8)
        have t1825 := s19.trans (t1923.trans (s24.trans s25))
        refine ⟨D8, us' ++ [.ref t5], br.map btS ++ [.wen fm.dat (.text (Gm.is n).dat) (btS b0)], o21, G25, rfl, t1825, B21.same (s22.trans (s23.trans (s24.trans s25))), ?_, ⟨fun p hp => ?_, ?_, ?_, ?_⟩, ?_⟩
        · rw [List.map_append]
          refine dpa_app (dpa_same t1825 du') (dpa_one ?_)
          show Dp K G25 (.ref t5) (toD (.wen fm.dat (.text (Gm.is n).dat) (btS b0)))
          simp only [toD]
          exact dp_same s25 d24
        · rcases List.mem_append.mp hp with h | h
          · obtain ⟨x, hx, rfl⟩ := List.mem_map.mp h
            exact sgb (List.mem_cons_of_mem _ hx)
          · rw [List.mem_singleton.mp h]
            refine SG.mk ⟨fm, rfl, fok, by omega⟩ fun q hq => ?_
            have hq : q ∈ [Sh.text (Gm.is n).dat, btS b0] := hq
            simp only [List.mem_cons, List.not_mem_nil, or_false] at hq
            rcases hq with rfl | rfl
            · exact sg_leaf ⟨_, rfl, ⟨n0, by omega⟩, by show 1 ≤ 5; decide⟩ rfl
            · exact sgb List.mem_cons_self
        · rw [List.length_append, List.length_map]
          simp only [List.length_cons, List.length_nil] at bl ⊢
          omega
        · rw [numbs_app, nb, numbs_one]
          simp only [btS, numb, List.length_append, List.length_map, List.length_cons, List.length_nil] at bl ⊢
          omega
        · have := hb1 br
          rw [hgts_app, hgts_one]
          simp only [hgt, btS]
          omega
        · exact S26.sw
      · have e0 : us7 = [] := by
          cases us7 with
          | nil => rfl
          | cons a r => exact nomatch e
        subst e0
        have b0 : bs = [] := List.eq_nil_of_length_eq_zero (by simpa using ul7.symm)
        subst b0
        exact ⟨D7, [], [], o18, G18, rfl, Same.refl _, B18, .nil, ⟨fun p hp => (nomatch hp), by simp, by simp [numbs], by simp [hgts]⟩, S18⟩
    obtain ⟨D8, us8, ps8, o19, G19, rfl, s19, B19, du8, pt8, S19⟩ := h
    have t1019 := t1018.trans s19
    have hO19 := t1019 _ _ hO
    have t019 := s1.trans (s2.trans (s5.trans (s7.trans (s9.trans (s10.trans t1019)))))
    -- children
    refine ⟨fun σ H' => ∃ (us : List V) (ps : List Sh) (o' : HO) (G' : Hp) (y9 y10 : Option V), σ = [some (.ref b), some (.ref u), some (.ref l), some (.ref D), some (.ref O), some (.ref Dg), some (.ref W), some (.int (mm : Nat)), some (.ref D8), y9, y10, none, none] ∧ Same G19 G' ∧ Bag G' o' ∧ DpAll K G' us (ps.map toD) ∧ Pts os 2 ps ∧
      Sep G' ((b, o') :: (D8, .lst us) :: (D, .dK (({ f with tk := .ref p1, he := .ref p2, ce := .ref p3, gi := .ref t1, de := vde, lo := vlo } : Fs).k (blankC z))) :: (u, .lst ((zs ++ [z]).map V.str)) :: M) H', ?_, fun σ H20 h => ?_⟩
    · refine ⟨l, rfl, ⟨_, S19.l (SqL.of (t019 _ _ hl))⟩, for_list (xs := [.ref D1, .ref D2]) (fun i σ H' => ∃ (us : List V) (ps : List Sh) (o' : HO) (G' : Hp) (y9 y10 : Option V), σ = [some (.ref b), some (.ref u), some (.ref l), some (.ref D), some (.ref O), some (.ref Dg), some (.ref W), some (.int (mm : Nat)), some (.ref D8), y9, y10, none, none] ∧ Same G19 G' ∧ Bag G' o' ∧ DpAll K G' us (ps.map toD) ∧ Pts os i ps ∧
        Sep G' ((b, o') :: (D8, .lst us) :: (D, .dK (({ f with tk := .ref p1, he := .ref p2, ce := .ref p3, gi := .ref t1, de := vde, lo := vlo } : Fs).k (blankC z))) :: (u, .lst ((zs ++ [z]).map V.str)) :: M) H') ⟨us8, ps8, o19, G19, _, _, rfl, Same.refl _, B19, du8, pt8, S19⟩ (fun i σ H' _ h => ?_) (fun i x σ H' hx h => ?_) (fun σ H' h => h)⟩
      · obtain ⟨us, ps, o', G', y9, y10, _, s', _, _, _, S'⟩ := h
        exact S'.l (SqL.of (s' _ _ (t019 _ _ hl)))
      · obtain ⟨us, ps, o', G', y9, y10, rfl, s', B', du, pt, S'⟩ := h
        obtain ⟨Dc, ch, rfl, hDc, gch⟩ : ∃ (Dc : Addr) (ch : Cp), x = .ref Dc ∧ PlAt K G' Dc ch ∧ GdC ch := by
          have hm := List.mem_of_getElem? hx
          simp only [List.mem_cons, List.not_mem_nil, or_false] at hm
          rcases hm with rfl | rfl
          · exact ⟨D1, ch1, rfl, hD1.same (t019.trans s'), gd1⟩
          · exact ⟨D2, ch2, rfl, hD2.same (t019.trans s'), gd2⟩
        obtain ⟨g, gD, ga⟩ := hDc.ex
        obtain ⟨q1, y1, f1, hq1, hy1⟩ := dp_tup ga.tk
        have yl := dpa_len hy1
        rw [List.length_map] at yl
        have tk3 := gch.t2.1
        have hO' := s' _ _ hO19
        have ul := dpa_len du
        rw [List.length_map] at ul
        have plen := pt.len
        have i2 : i < 2 := (List.getElem?_eq_some_iff.mp hx).1
        have gt : ∀ {G2 H2 : Hp} {M' : List (Addr × HO)}, Same G' G2 → Sep G2 M' H2 → DGet H2 Dc (.str "takes") (some (V.ref q1)) := fun s2 S2 => by rw [← f1]; exact Fs.dg_takes (S2.st (s2 _ _ gD))
        refine ⟨G', _, b, o', 2, rfl, S', B', by decide, by decide, fun w1 o1 H1 w10 w12 B1 S1 => ⟨fun _ => ?_, fun _ => ?_⟩⟩
        · refine ⟨.inl ⟨rfl, _, SqL.of S1.sw.hd⟩, Dc, _, rfl, Fs.dg_name (S1.st gD), Dc, _, rfl, gt (Same.refl _) S1, q1, rfl, ⟨_, S1.t hq1⟩, fun Df nDf => lc_bag (K := K) (walk_tup (xs := y1)) S1 B1 nDf (by omega) (fun i d => FmD os d) (fun G2 H2 o2 ws s2 S2 => S2.t (same_t s2 hq1)) (fun i y G2 H2 H3 o2 ws R hi s2 B2 S2 yy hR => ?_) (fun G2 H2 o2 ws ds s2 B2 S2 hw dl hp => ?_)⟩
          · obtain ⟨rfl, hy⟩ := yy
            exact ⟨rfl, G2, _, b, o2, O, os, 2, rfl, S2, B2, s2 _ _ hO', by omega, by decide, by decide, fun vf fm o3 G3 H3 s3 hf fok fdp B3 S3 => hR vf fm.dat o3 G3 H3 s3 ⟨fm, rfl, fok, by omega⟩ B3 S3 (gm_dp hf)⟩
          · refine ⟨Df, ws, rfl, .inl ⟨SqL.of S2.sw.hd, fun t2 m2 => ⟨sz, fun t3 m3 => ?_⟩⟩⟩
            obtain ⟨G3, s3, S3, d3'⟩ := dp_mk (K := K) S2.sw.drop m2 hw
            obtain ⟨G4, s4, S4, d4⟩ := dp_mk (K := K) (ds := [.str "put", .str ch.name, .tuple ds]) S3 m3 (.cons (.str _) (.cons (.str _) (.cons d3' .nil)))
            have t4 := s2.trans (s3.trans s4)
            refine ⟨D8, us, _, rfl, rfl, S4.sw.hd, smallL (by omega), us ++ [.ref t3], ps ++ [.put (.str ch.name) ds], o2, G4, _, _, rfl, s'.trans t4, B2.same (s3.trans s4), ?_, pt.snoc (p := .put (.str ch.name) ds) (sg_leaf ⟨⟨_, rfl, gch.nm⟩, by omega, fm_list ds hp⟩ rfl) (by simp only [numb]) rfl, (S4.sw.set (o' := .lst (us ++ [.ref t3]))).sw⟩
            rw [List.map_append]
            exact dpa_app (dpa_same t4 du) (dpa_one (by show Dp K G4 (.ref t3) (toD (.put (.str ch.name) ds)); simp only [toD]; exact d4))
        · refine ⟨Dc, _, rfl, gt (Same.refl _) S1, q1, rfl, ⟨_, S1.t hq1⟩, fun Df nDf => lc_bag (K := K) (walk_tup (xs := y1)) S1 B1 nDf (by omega) (fun i d => FmD (os ++ (["item", "at"] : List Str)) d) (fun G2 H2 o2 ws s2 S2 => S2.t (same_t s2 hq1)) (fun i y G2 H2 H3 o2 ws R hi s2 B2 S2 yy hR => ?_) (fun G2 H2 o2 ws ds s2 B2 S2 hw dl hp => ?_)⟩
          · obtain ⟨rfl, hy⟩ := yy
            refine ⟨rfl, sz, fun t7 n7 => ?_⟩
            obtain ⟨G7, s7, S7, h7⟩ := Sep.mk (o := .lst ((["item", "at"] : List Str).map V.str)) S2 n7
            refine ⟨O, t7, _, _, rfl, rfl, S7.st (s7 _ _ (s2 _ _ hO')), S7.st h7, by rw [List.length_map]; exact small (by simp only [List.length_map, List.length_cons, List.length_nil]; omega), fun t8 n8 => ?_⟩
            have e8 : os.map V.str ++ (["item", "at"] : List Str).map V.str = (os ++ (["item", "at"] : List Str)).map V.str := by rw [List.map_append]
            rw [e8]
            obtain ⟨G8, s8, S8, h8⟩ := Sep.mk (o := .lst ((os ++ (["item", "at"] : List Str)).map V.str)) S7 n8
            exact ⟨G8, _, b, o2, t8, os ++ (["item", "at"] : List Str), 2, rfl, S8, B2.same (s7.trans s8), h8, by rw [List.length_append]; simp only [List.length_cons, List.length_nil]; omega, by decide, by decide, fun vf fm o3 G3 H3 s3 hf fok fdp B3 S3 => hR vf fm.dat o3 G3 H3 (s7.trans (s8.trans s3)) ⟨fm, rfl, fok, by omega⟩ B3 S3 (gm_dp hf)⟩
          · refine ⟨Df, ws, rfl, .inl ⟨SqL.of S2.sw.hd, fun t2 m2 => ?_⟩⟩
            obtain ⟨G3, s3, S3, d3'⟩ := dp_mk (K := K) S2.sw.drop m2 hw
            have u3 := s2.trans s3
            refine ⟨.inl ⟨rfl, _, SqL.of S3.sw.hd⟩, G3, _, b, o2, O, os, 2, rfl, S3, B2.same s3, u3 _ _ hO', by omega, by decide, by decide, fun vf fm o4 G4 H4 s4 hf fok fdp B4 S4 => ?_⟩
            refine ⟨G4, _, b, o4, rfl, S4, B4, fun vm m o5 G5 H5 s5' dm gm B5 S5 => ?_⟩
            refine ⟨G5, _, b, o5, rfl, S5, B5, fun vk kd o6 G6 H6 s6 dk' fk B6 S6 => ?_⟩
            have u6 := s4.trans (s5'.trans s6)
            refine ⟨Dc, _, rfl, Fs.dg_name (S6.st (u6 _ _ (u3 _ _ gD))), sz, fun t9 m9 => ?_⟩
            obtain ⟨G7, s7, S7, d7'⟩ := dp_mk (K := K) (ds := [.str "each", fm.dat, m, kd, .str ch.name, .tuple ds]) S6 m9 (.cons (.str _) (.cons (dp_same (s5'.trans s6) (gm_dp hf)) (.cons (dp_same s6 dm) (.cons dk' (.cons (.str _) (.cons (dp_same u6 d3') .nil))))))
            have t7 := u3.trans (u6.trans s7)
            refine ⟨D8, us, _, rfl, rfl, S7.sw.hd, smallL (by omega), us ++ [.ref t9], ps ++ [.each fm.dat m kd (.str ch.name) ds], o6, G7, _, _, rfl, s'.trans t7, B6.same s7, ?_, pt.snoc (p := .each fm.dat m kd (.str ch.name) ds) (sg_leaf ⟨⟨fm, rfl, fok, by omega⟩, gm, fk, ⟨_, rfl, gch.nm⟩, by omega, fm_list ds hp⟩ rfl) (by simp only [numb]) rfl, (S7.sw.set (o' := .lst (us ++ [.ref t9]))).sw⟩
            rw [List.map_append]
            exact dpa_app (dpa_same t7 du) (dpa_one (by show Dp K G7 (.ref t9) (toD (.each fm.dat m kd (.str ch.name) ds)); simp only [toD]; exact d7'))
    obtain ⟨us9, ps9, o20, G20, y9, y10, rfl, s20, B20, du9, pt9, S20⟩ := h
    have t1020 := t1019.trans s20
    have ul9 := dpa_len du9
    rw [List.length_map] at ul9
    have pl9 := pt9.len
    -- shape
    obtain ⟨G21, s21, S21, h21⟩ := Sep.keep S20.sw
    refine ⟨sz, fun t2 m2 => ?_⟩
    obtain ⟨G22, s22, S22, h22⟩ := Sep.mk (o := .lst [.str "row", .str "col"]) S21 m2
    refine ⟨G22, _, b, o20, 2, rfl, S22, B20.same (s21.trans s22), by decide, by decide, fun x o23 H23 x0 x2 B23 S23 => ?_⟩
    obtain ⟨col, hcol⟩ : ∃ col, atI [V.str "row", V.str "col"] x = some (V.str (lword col)) := by
      have h : x = 0 ∨ x = 1 := by omega
      rcases h with rfl | rfl
      · exact ⟨false, rfl⟩
      · exact ⟨true, rfl⟩
    refine ⟨_, _, .inl (SqL.of (S23.st h22)), hcol, ?_⟩
    refine ⟨G22, _, b, o23, D8, us9, rfl, S23, B23, .inl (SqL.of (s22 _ _ h21)), by omega, fun p24 ys24 o24 G24 H24 s24 h24 pm B24 S24 => ?_⟩
    obtain ⟨ps10, pm10, d10'⟩ := dpa_perm pm.symm (dpa_same (s21.trans (s22.trans s24)) du9)
    refine ⟨p24, ys24, rfl, .inl ⟨SqL.of (S24.st h24), fun t3 m3 => ⟨sz, fun t4 m4 => ?_⟩⟩⟩
    obtain ⟨G25, s25, S25, d25⟩ := dp_mk (K := K) S24 m3 d10'
    obtain ⟨G26, s26, S26, d26⟩ := dp_mk (K := K) S25 m4 (.cons (.str (lword col)) (.cons d25 .nil))
    refine ⟨D, _, rfl, DPut.k (k := Sum.inr "shape") (S26.at mD1) (lk _ _), ?_⟩
    rw [Fs.pk_shape]
    have S26 : Sep G26 ((b, o24) :: (D, .dK (({ f with sh := .ref t4, tk := .ref p1, he := .ref p2, ce := .ref p3, gi := .ref t1, de := vde, lo := vlo } : Fs).k (blankC z))) :: (u, .lst ((zs ++ [z]).map V.str)) :: M) _ := S26.setAt (i := 1) (o' := .dK (({ f with sh := .ref t4, tk := .ref p1, he := .ref p2, ce := .ref p3, gi := .ref t1, de := vde, lo := vlo } : Fs).k (blankC z))) rfl
    obtain ⟨G27, s27, S27, h27⟩ := Sep.keep S26.sw
    have u26 := s27
    have u20 := s21.trans (s22.trans (s24.trans (s25.trans (s26.trans u26))))
    have u17 := s18.trans (s19.trans (s20.trans u20))
    have u13 := s15.trans (s17.trans u17)
    have u11 := s12.trans (s13.trans u13)
    have u10 := s11.trans u11
    have t227 := s5.trans (s7.trans (s9.trans (s10.trans u10)))
    have sgp : ∀ p ∈ ps10, SG os p := fun p hp => pt9.sg p (pm10.mem_iff.mp hp)
    have good : GdC (parentC z tk hr' (c0 :: cr) gv dd lks col ps10) := parent_good z1 ft1 (by omega) tb h1 (by omega) hb c1 (by simp only [List.length_cons] at cn ⊢; omega) cb gfr gvl (fun r hr => by rw [hos]; exact gvb r hr) ddw ddl (fun r hr => by
      obtain ⟨c1, f, e1, e2, e3⟩ := ddb r hr
      exact ⟨c1, f, e1, by rw [e2]; exact List.mem_cons_self, by rw [hos]; exact e3⟩) hlk (fun p hp => by rw [hos]; exact sgp p hp) (by rw [pm10.length_eq]; omega) (by rw [hgts_perm pm10]; have := pt9.hg; omega)
    refine q D (parentC z tk hr' (c0 :: cr) gv dd lks col ps10) z o24 G27 _ (s1.trans (s2.trans t227)) ⟨{ f with sh := .ref t4, tk := .ref p1, he := .ref p2, ce := .ref p3, gi := .ref t1, de := vde, lo := vlo }, h27, ?_⟩ good ?_ (B24.same (s25.trans (s26.trans s27))) S27
    · refine ⟨?_, dp_same u10 (.tup hp1 hx1), dp_same u10 (.tup hp2 hx2), dp_same u10 (.tup hp3 hx3), dp_same t227 fa.ak, dp_same u13 d13, dp_same t227 fa.ef, dp_same u17 dde, dp_same u11 dlo, dp_same t227 fa.il⟩
      show Dp K G27 (.ref t4) (toD (.line col ps10))
      simp only [toD, toDs_eq]
      exact dp_same s27 d26
    · show (numb (.line col ps10)).length ≤ 16
      have := numbs_perm pm10
      have := pt9.num
      simp only [numb, List.length_cons]
      omega

end
end K57
set_option Elab.async false
set_option linter.all false
set_option maxRecDepth 100000
set_option maxHeartbeats 4000000
namespace K57
open PySem PySem.Spec PyProof.Rows L2 XL
section
variable {P : Program} {w : World} {K : PySem.W.Frag} {mg : Str → Option Value} {base : Heap}
theorem fn_calm {P : Program} {w : World} {K : PySem.W.Frag} {mg : Str → Option Value} {base : Heap} {k : Nat} {f : Addr} {fd : FuncData} {ps : List Str} {sp : Sp} (F : FnOk P w K mg base (L2.CX P w) k f fd ps sp) : FnOk P w K mg base CX0 k f fd ps (fun vs H Q _ => sp vs H Q E0) :=
  ⟨fun vs H Q _ h => F.len vs H Q E0 h, fun A outer s H args us vs Q E hr he hb hv h => codeAny_mono (F.run A outer s H args us vs Q E0 hr he hb hv h) fun r s' q => by
    match r, q with
    | .ok (.ret u), q => exact q
    | .ok .next, q => exact q
    | .ok .brk, q => exact q
    | .ok .cont, q => exact q
    | .error e, q =>
      obtain ⟨_, _, _, _, _, _, _, _, _, _, _, _, z⟩ := q
      exact z.elim⟩
theorem fn_up {P : Program} {w : World} {K : PySem.W.Frag} {mg : Str → Option Value} {base : Heap} {CX : CXT} {k k' : Nat} {f : Addr} {fd : FuncData} {ps : List Str} {sp : Sp} (h : FnOk P w K mg base CX k f fd ps sp) (le : k ≤ k') : FnOk P w K mg base CX k' f fd ps sp :=
  ⟨h.len, fun A outer s H args us vs Q E hr he hb hv q => h.run A outer s H args us vs Q E (hr.mono le) he hb hv q⟩
/-! ### the law -/
def spLaw (K : PySem.W.Frag) : Sp := fun vs H Q _ => ∃ (a : Addr) (ns : List Int), vs = [.ref a] ∧ SqL K H a (ns.map V.int) ∧ ns.length ≤ 63 ∧ ∀ H', Q (.bl true) H'
theorem ok_law (T : Top K mg w) {k : Nat} (G_bag : FnOk P w K mg base CX0 k T.a_bag T.d_bag ["_law_script"] (spBag K)) (G_child : FnOk P w K mg base CX0 k T.a_child T.d_child ["_law_bag_here", "_law_used"] (spChild K)) (G_parent : FnOk P w K mg base CX0 k T.a_parent T.d_parent ["_law_bag_here", "_law_used", "_law_children"] (spParent K)) (G_component_of : FnOk P w K mg base CX0 k T.a_component_of T.d_component_of ["_law_plain"] (spCof K T.C_Component))
    (G_law_stub : FnOk P w K mg base CX0 k T.a_law_stub T.d_law_stub ["_law_told", "_law_child_here"] (spLStub K)) (G_got : FnOk P w K mg base CX0 k T.a_got T.d_got ["_law_parent_here", "_law_child_here"] (spGot K T.C_Component)) (G_law_numbered : FnOk P w K mg base CX0 k T.a_law_numbered T.d_law_numbered ["_law_shape"] (spLNumb K 5)) (G_same : FnOk P w K mg base CX0 k T.a_same T.d_same ["_law_first", "_law_second"] (spSame K 20))
    (G_is : FnOk P w K mg base CX0 k T.a_is T.d_is ["_law_got_here", "_law_told"] (spIs K T.C_Component)) : FnOk P w K mg base CX0 (k + 1) T.a_law T.d_law ["_law_script"] (spLaw K) := by
  refine T.F_law.ok sc_law (fun vs H Q E h => ?_) (fun cdv A outer s0 H vs Q E hr h => ?_)
  · obtain ⟨a, ns, rfl, _⟩ := h
    rfl
  · obtain ⟨a, ns, rfl, h1, hl, q⟩ := h
    refine ⟨_, (pss_cons (ps_set (i := 1) sc_law.nd rfl (.inl rfl) (pe_call G_bag (hr.mono (by omega)) (by rfl) T.g_bag T.F_bag.kp T.b_bag .nil pass0 (pa_cons (xv 0) pa_nil)))
      (pss_cons (ps_set (i := 2) sc_law.nd rfl (.inl rfl) (pe_lst pa_nil))
      (pss_cons (ps_set (i := 3) sc_law.nd rfl (.inl rfl) (pe_call G_child (hr.mono (by omega)) (by rfl) T.g_child T.F_child.kp T.b_child .nil pass0 (pa_cons (xv 1) (pa_cons (xv 2) pa_nil))))
      (pss_cons (ps_set (i := 4) sc_law.nd rfl (.inl rfl) (pe_call G_child (hr.mono (by omega)) (by rfl) T.g_child T.F_child.kp T.b_child .nil pass0 (pa_cons (xv 1) (pa_cons (xv 2) pa_nil))))
      (pss_cons (ps_set (i := 5) sc_law.nd rfl (.inl rfl) (pe_call G_parent (hr.mono (by omega)) (by rfl) T.g_parent T.F_parent.kp T.b_parent .nil pass0 (pa_cons (xv 1) (pa_cons (xv 2) (pa_cons (pe_lst (pa_cons (xv 3) (pa_cons (xv 4) pa_nil))) pa_nil)))))
      (pss_cons (ps_set (i := 6) sc_law.nd rfl (.inl rfl) (pe_call G_component_of (hr.mono (by omega)) (by rfl) T.g_component_of T.F_component_of.kp T.b_component_of .nil pass0 (pa_cons (xv 5) pa_nil)))
      (pss_cons (ps_set (i := 7) sc_law.nd rfl (.inl rfl) (pe_call G_component_of (hr.mono (by omega)) (by rfl) T.g_component_of T.F_component_of.kp T.b_component_of .nil pass0 (pa_cons (xv 3) pa_nil)))
      (pss_cons (ps_set (i := 8) sc_law.nd rfl (.inl rfl) (pe_call G_component_of (hr.mono (by omega)) (by rfl) T.g_component_of T.F_component_of.kp T.b_component_of .nil pass0 (pa_cons (xv 4) pa_nil)))
      (pss_cons (ps_set (i := 9) sc_law.nd rfl (.inl rfl) pe_bl)
      (pss_cons (ps_for PassesOwn.never rfl (pi_listK K (pe_lst (pa_cons (pe_tup (pa_cons (xv 7) (pa_cons (xv 3) pa_nil))) (pa_cons (pe_tup (pa_cons (xv 8) (pa_cons (xv 4) pa_nil))) (pa_cons (pe_tup (pa_cons (xv 7) (pa_cons (xv 3) pa_nil))) pa_nil))))) (pg_tupK K 2 (pgs_cons (pg_name (i := 10) sc_law.nd rfl (.inl rfl)) (pgs_cons (pg_name (i := 11) sc_law.nd rfl (.inl rfl)) pgs_nil)))
      (pss_cons (ps_set (i := 12) sc_law.nd rfl (.inl rfl) (pe_call G_law_stub (hr.mono (by omega)) (by rfl) T.g_law_stub T.F_law_stub.kp T.b_law_stub .nil pass0 (pa_cons (xv 5) (pa_cons (xv 11) pa_nil))))
      (pss_cons (ps_set (i := 13) sc_law.nd rfl (.inl rfl) (pe_call G_got (hr.mono (by omega)) (by rfl) T.g_got T.F_got.kp T.b_got .nil pass0 (pa_cons (xv 6) (pa_cons (xv 10) pa_nil))))
      (pss_one (xs_if (xt_cmp op_gtY (pe_callB (cr_lenK K) (by rfl) T.m_len (by decide +kernel) (pa_cons (pe_call G_law_numbered (hr.mono (by omega)) (by rfl) T.g_law_numbered T.F_law_numbered.kp T.b_law_numbered .nil pass0 (pa_cons (pe_dget (hu_of hr) (xv 12) pe_str (fun _ _ => rfl)) pa_nil)) pa_nil)) pe_int (nomark _))
      (pss_one (ps_set (i := 9) sc_law.nd rfl (.inl rfl) (xe_and (xv 9) (pe_one (pe_call G_same (hr.mono (by omega)) (by rfl) T.g_same T.F_same.kp T.b_same .nil pass0 (pa_cons (xv 13) (pa_cons (pe_tup (pa_cons pe_str (pa_cons pe_str pa_nil))) pa_nil)))))))
      (pss_one (ps_set (i := 9) sc_law.nd rfl (.inl rfl) (xe_and (xv 9) (pe_one (pe_call G_is (hr.mono (by omega)) (by rfl) T.g_is T.F_is.kp T.b_is .nil pass0 (pa_cons (xv 13) (pa_cons (xv 12) pa_nil))))))))))))
      (pss_one (ps_ret (xe_and (xv 9) (xe_and (pe_call G_is (hr.mono (by omega)) (by rfl) T.g_is T.F_is.kp T.b_is .nil pass0 (pa_cons (xv 6) (pa_cons (xv 5) pa_nil))) (xe_and (pe_call G_is (hr.mono (by omega)) (by rfl) T.g_is T.F_is.kp T.b_is .nil pass0 (pa_cons (xv 7) (pa_cons (xv 3) pa_nil))) (pe_one (pe_call G_is (hr.mono (by omega)) (by rfl) T.g_is T.F_is.kp T.b_is .nil pass0 (pa_cons (xv 8) (pa_cons (xv 4) pa_nil))))))))))))))))))), ?_⟩
    refine ⟨H, [], a, ns, rfl, sep0, h1, hl, fun b o G1 H1 _ B1 S1 => ⟨sz, fun U nU => ?_⟩⟩
    have S2 := (S1.new (o := .lst ([].map V.str)) nU).sw
    refine ⟨G1, _, b, o, U, [], rfl, S2, B1, fun z hz => (nomatch hz), by decide, fun D1 ch1 z1 o3 G3 H3 s3 hD1 gd1 c1 lt1 B3 S3 => ?_⟩
    refine ⟨G3, _, b, o3, U, [z1], rfl, S3, B3, fun z hz => by rw [List.mem_singleton.mp hz]; exact lt1, by show 1 ≤ 10; decide, fun D2 ch2 z2 o4 G4 H4 s4 hD2 gd2 c2 lt2 B4 S4 => ⟨sz, fun L nL => ?_⟩⟩
    obtain ⟨G5, s5, S5, h5⟩ := Sep.mk (o := .lst [.ref D1, .ref D2]) S4 nL
    refine ⟨G5, _, b, o4, U, [z1, z2], L, D1, D2, ch1, ch2, rfl, S5, B4.same s5, fun z hz => ?_, by show 2 ≤ 10; decide, h5, hD1.same (s4.trans s5), hD2.same s5, gd1, gd2, fun D3 c z3 o6 G6 H6 s6 hD3 gc c16 B6 S6 => ?_⟩
    · simp only [List.mem_cons, List.not_mem_nil, or_false] at hz
      rcases hz with rfl | rfl
      · exact lt1
      · exact lt2
    have hD1 := hD1.same (s4.trans (s5.trans s6))
    have hD2 := hD2.same (s5.trans s6)
    refine ⟨G6, _, D3, c, rfl, S6, hD3, gc, c16, fun xp G7 H7 s7 hxp S7 => ?_⟩
    refine ⟨G7, _, D1, ch1, rfl, S7, hD1.same s7, gd1, c1, fun x1 G8 H8 s8 hx1 S8 => ?_⟩
    refine ⟨G8, _, D2, ch2, rfl, S8, hD2.same (s7.trans s8), gd2, c2, fun x2 G9 H9 s9 hx2 S9 => ?_⟩
    have hD1 := hD1.same (s7.trans (s8.trans s9))
    have hD2 := hD2.same (s7.trans (s8.trans s9))
    have hD3 := hD3.same (s7.trans (s8.trans s9))
    have hxp := hxp.same (s8.trans s9)
    have hx1 := hx1.same s9
    refine ⟨sz, fun t1 m1 => ⟨sz, fun t2 m2 => ⟨sz, fun t3 m3 => ⟨sz, fun t4 m4 => ?_⟩⟩⟩⟩
    obtain ⟨G10, s10, S10, h10⟩ := Sep.mk (o := .tup [.ref x1, .ref D1]) S9 m1
    obtain ⟨G11, s11, S11, h11⟩ := Sep.mk (o := .tup [.ref x2, .ref D2]) S10 m2
    obtain ⟨G12, s12, S12, h12⟩ := Sep.mk (o := .tup [.ref x1, .ref D1]) S11 m3
    obtain ⟨G13, s13, S13, h13⟩ := Sep.mk (o := .lst [.ref t1, .ref t2, .ref t3]) S12 m4
    have t913 := s10.trans (s11.trans (s12.trans s13))
    have hD1 := hD1.same t913
    have hD2 := hD2.same t913
    have hD3 := hD3.same t913
    have hxp := hxp.same t913
    have hx1 := hx1.same t913
    have hx2 := hx2.same t913
    have prs : ∀ v ∈ [V.ref t1, V.ref t2, V.ref t3], ∃ (t x D : Addr) (ch : Cp), v = .ref t ∧ G13 t = some (.tup [.ref x, .ref D]) ∧ CpAt K T.C_Component G13 x ch ∧ PlAt K G13 D ch ∧ GdC ch := by
      intro v hv
      simp only [List.mem_cons, List.not_mem_nil, or_false] at hv
      rcases hv with rfl | rfl | rfl
      · exact ⟨t1, x1, D1, ch1, rfl, s13 _ _ (s12 _ _ (s11 _ _ h10)), hx1, hD1, gd1⟩
      · exact ⟨t2, x2, D2, ch2, rfl, s13 _ _ (s12 _ _ h11), hx2, hD2, gd2⟩
      · exact ⟨t3, x1, D1, ch1, rfl, s13 _ _ h12, hx1, hD1, gd1⟩
    refine ⟨t4, rfl, ⟨_, S13.l (SqL.of h13)⟩, for_list (xs := [.ref t1, .ref t2, .ref t3]) (fun i σ H' => ∃ (y10 y11 y12 y13 : Option V) (G' : Hp) (M : List (Addr × HO)), σ = [some (.ref a), some (.ref b), some (.ref U), some (.ref D1), some (.ref D2), some (.ref D3), some (.ref xp), some (.ref x1), some (.ref x2), some (.bl true), y10, y11, y12, y13] ∧ Same G13 G' ∧ Sep G' M H')
      ⟨_, _, _, _, G13, _, rfl, Same.refl _, S13⟩ (fun i σ H' _ h => ?_) (fun i v σ H' hv h => ?_) (fun σ H' h => ?_)⟩
    · obtain ⟨_, _, _, _, G', M, _, s', S'⟩ := h
      exact S'.l (same_l s' (SqL.of h13))
    · obtain ⟨y10, y11, y12, y13, G', M, rfl, s', S'⟩ := h
      obtain ⟨t, x, D, ch, rfl, ht, hx, hD, gch⟩ := prs v (List.mem_of_getElem? hv)
      refine ⟨t, _, rfl, SqT.of (S'.st (s' _ _ ht)), rfl, _, _, rfl, _, _, rfl, rfl, ?_⟩
      refine ⟨G', M, D3, D, c, ch, rfl, S', hD3.same s', hD.same s', gc, gch, c16, fun Dd G14 H14 s14 hDd S14 => ?_⟩
      have t14 := s'.trans s14
      have sg := stub_good gc gch c16
      have sc := stub_cnt (stf gc gch c16)
      have s16 : cnt (stubC c ch).shape ≤ 1000 := by
        have h1 := gch.t2.1
        have h2 := gc.g2.1
        have h3 := gc.d2.1
        omega
      refine ⟨G14, M, xp, x, c, ch, rfl, S14, hxp.same t14, hx.same t14, gc, gch, c16, fun small z G15 H15 s15 hz S15 => ?_, fun big v G15 H15 s15 hv S15 => ?_⟩
      · obtain ⟨fd, hfd, fad⟩ := (hDd.same s15).ex
        refine ⟨Dd, _, rfl, Fs.dg_shape (S15.st hfd), G15, M, fd.sh, (stubC c ch).shape, rfl, S15, fad.sh, sg.sh, s16, fun l us G16 H16 s16' hl16 hus S16 => ⟨_, .inl (SqL.of (S16.st hl16)), fun e => ?_, fun e => ?_⟩⟩
        · have ul := dpa_len hus
          rw [List.length_map] at ul
          have ul : us.length = cnt (stubC c ch).shape := ul
          have := of_decide_eq_true e
          omega
        · refine ⟨fun _ => ?_, tt⟩
          exact ⟨G16, M, z, Dd, stubC c ch, rfl, S16, hz.same s16', hDd.same (s15.trans s16'), sg, small, fun G17 H17 s17 S17 => ⟨_, _, _, _, G17, M, rfl, t14.trans (s15.trans (s16'.trans s17)), S17⟩⟩
      · obtain ⟨fd, hfd, fad⟩ := (hDd.same s15).ex
        refine ⟨Dd, _, rfl, Fs.dg_shape (S15.st hfd), G15, M, fd.sh, (stubC c ch).shape, rfl, S15, fad.sh, sg.sh, s16, fun l us G16 H16 s16' hl16 hus S16 => ⟨_, .inl (SqL.of (S16.st hl16)), fun e => ?_, fun e => ?_⟩⟩
        · refine ⟨fun _ => ⟨sz, fun t5 m5 => ?_⟩, tt⟩
          obtain ⟨G17, s17, S17, d17⟩ := dp_mk (K := K) (ds := [.str "BadComponent", .str "shape"]) S16 m5 (.cons (.str _) (.cons (.str _) .nil))
          exact ⟨G17, M, v, .ref t5, .tuple [.str "BadComponent", .str "shape"], rfl, S17, dp_same (s16'.trans s17) hv, d17, (two_pl (PlD.str _) (PlD.str _)).mono (by decide), fun G18 H18 s18 S18 => ⟨_, _, _, _, G18, M, rfl, t14.trans (s15.trans (s16'.trans (s17.trans s18))), S18⟩⟩
        · have ul := dpa_len hus
          rw [List.length_map] at ul
          have ul : us.length = cnt (stubC c ch).shape := ul
          have := of_decide_eq_false e
          omega
    · obtain ⟨y10, y11, y12, y13, G', M, rfl, s', S'⟩ := h
      refine ⟨fun _ => ?_, tt⟩
      refine ⟨G', M, xp, D3, c, rfl, S', hxp.same s', hD3.same s', gc, c16, fun G14 H14 s14 S14 => ⟨fun _ => ?_, tt⟩⟩
      have t14 := s'.trans s14
      refine ⟨G14, M, x1, D1, ch1, rfl, S14, hx1.same t14, hD1.same t14, gd1, c1, fun G15 H15 s15 S15 => ⟨fun _ => ?_, tt⟩⟩
      have t15 := t14.trans s15
      exact ⟨G15, M, x2, D2, ch2, rfl, S15, hx2.same t15, hD2.same t15, gd2, c2, fun G16 H16 _ _ => q H16⟩

end
end K57
set_option Elab.async false
set_option linter.all false
set_option maxRecDepth 100000
set_option maxHeartbeats 4000000
namespace K57
open PySem PySem.Spec PyProof.Rows L2 XL
theorem law_end {l : PySem.W.OpenLaw} {w : World} {K : PySem.W.Frag} {h : Heap} {mg : Str → Option Value} {fa f : Addr} {file : Str} (X : K.In h) (G : h.Ns mainGlobals mg) (hfa : mg "law" = some (.ref fa))
    (t : ∃ T : Top K mg w, T.a_law = f ∧ T.x_file = file ∧ ∀ (s : Shared) (v : Value), BindsTo s T.d_law ⟨[v], []⟩ [("_law_script", v)]) (pf0 : PySem.XExc.PF l.prog file) :
    ∃ fd : FuncData, (∀ (s : Shared) (v : Value), BindsTo s fd ⟨[v], []⟩ [("_law_script", v)]) ∧ ∀ base : Heap, K.In base → base.Ns mainGlobals mg → FnOk l.prog w K mg base CX0 100 fa fd ["_law_script"] (spLaw K) := by
  obtain ⟨T, _, ef, hb⟩ := t
  have pf : PySem.XExc.PF l.prog T.x_file := by rw [ef]; exact pf0
  have e := hfa.symm.trans T.g_law
  cases e
  refine ⟨T.d_law, hb, fun base _ _ => ?_⟩
  have up : ∀ {a b : Nat}, a ≤ a + b := Nat.le_add_right _ _
  -- the program
  have Gnum : FnOk l.prog w K mg base CX0 1 T.a_is_number T.d_is_number _ spNumberIn := ok_is_number T (k := 0)
  have Gnam : FnOk l.prog w K mg base CX0 1 T.a_is_name T.d_is_name _ spName := ok_is_name T (k := 0)
  have Gpart : FnOk l.prog w K mg base CX0 2 T.a_is_part T.d_is_part _ (spPart K) := ok_is_part T (k := 0) Gnum Gnam
  have Gcf : FnOk l.prog w K mg base CX0 3 T.a_check_form T.d_check_form _ (spCheck K) := ok_check_form T (k := 2) Gpart
  have Ggf : FnOk l.prog w K mg base CX0 10 T.a_good_form T.d_good_form _ (spGf K) := ok_good_form T (k := 3) Gcf (ok_names_ofG T 5)
  have Ggr : FnOk l.prog w K mg base CX0 7 T.a_good_rows T.d_good_rows _ (spGr K) := ok_good_rows T (k := 0)
  have Gfr : FnOk l.prog w K mg base CX0 7 T.a_fresh T.d_fresh _ (spFresh K) := ok_fresh T (k := 0) Gnam
  have Gdi : FnOk l.prog w K mg base CX0 7 T.a_different T.d_different _ (spDiff K) := ok_different T (k := 0) Gnam
  have Ggt : FnOk l.prog w K mg base CX0 8 T.a_good_told T.d_good_told _ (spTold K) := ok_good_told T (k := 0) Ggr Gfr (fn_up Gnum (by decide))
  have Ggm : FnOk l.prog w K mg base CX0 7 T.a_good_menu T.d_good_menu _ (spMenu K) := ok_good_menu T (k := 0) (ok_check_row T (k := 0))
  have Ggc : FnOk l.prog w K mg base CX0 11 T.a_good_children T.d_good_children _ (spGc K) := ok_good_children T (k := 10) (fn_up Gnam (by decide)) Ggf (fn_up Ggm (by decide))
  have Ggs : FnOk l.prog w K mg base CX0 16 T.a_good_shape T.d_good_shape _ (spGsO K) := ok_good_shapeO T (k := 11) (fn_up Gnam (by decide)) (fn_up Ggf (by decide)) Ggc
  have Gnu : FnOk l.prog w K mg base CX0 8 T.a_numbered T.d_numbered _ (spNumb K 6) := ok_numbered T (ok_part_shapes T (k := 0)) 6
  have Gpn : FnOk l.prog w K mg base CX0 9 T.a_part_numbers T.d_part_numbers _ (spPn K) := ok_part_numbers T (k := 0) Gnu
  have Gwi : FnOk l.prog w K mg base CX0 8 T.a_Component_within T.d_Component_within _ (spWi K) := ok_within T (k := 7) Gdi
  have Ggi : FnOk l.prog w K mg base CX0 1 T.a_Component_good_island T.d_Component_good_island _ (spIsl K) := ok_good_island T (k := 0)
  have Ggd : FnOk l.prog w K mg base CX0 11 T.a_Component_good_deed T.d_Component_good_deed _ (spDeed K T.C_Component) := ok_good_deed T (k := 10) (fn_up Ggr (by decide)) Ggf (fn_up Gwi (by decide))
  have Gct : FnOk l.prog w K mg base CX0 11 T.a_Component_check_told T.d_Component_check_told _ (spCt K T.C_Component) := ok_check_told T (k := 10) (fn_up Gnam (by decide)) (fn_up Gnum (by decide)) (fn_up Ggr (by decide)) (fn_up Gfr (by decide)) (fn_up Ggt (by decide)) Ggf
  have Gcw : FnOk l.prog w K mg base (L2.CX l.prog w) 18 T.a_Component_check_works T.d_Component_check_works _ (spCw K T.C_Component T.C_BadComponent) := ok_check_works T pf (k := 16) (fn_up Gnum (by decide)) (fn_up Ggr (by decide)) (fn_up Gfr (by decide)) (fn_up Gdi (by decide)) (fn_up Ggf (by decide)) (fn_up Gwi (by decide)) (fn_up Ggd (by decide)) (fn_up Ggi (by decide)) Ggs (fn_up Gnu (by decide))
  have Gci : FnOk l.prog w K mg base (L2.CX l.prog w) 19 T.a_Component_init T.d_Component_init _ (spCi K T.C_Component T.C_BadComponent) := ok_Component_init T pf (k := 17) (fn_up Gct (by decide)) Gcw (fn_up Gnu (by decide)) (fn_up Gpn (by decide))
  have Gst : FnOk l.prog w K mg base (L2.CX l.prog w) 21 T.a_stub T.d_stub _ (spStub K T.C_Component T.C_BadComponent) := ok_stub T (k := 19) (ok_spare_names T (k := 18)) (ok_words_of T (k := 18)) (ok_one_more T (k := 18)) (ok_text_shape T (k := 18)) (ok_button_shape T (k := 18)) (ok_col_shape T (k := 18)) Gci
  -- the law
  have Gp : ∀ k, FnOk l.prog w K mg base CX0 (k + 2) T.a_pick T.d_pick _ spPick := fun k => ok_pick T (k := k) (ok_mixed T)
  have Gch : ∀ k, FnOk l.prog w K mg base CX0 (k + 3) T.a_choice T.d_choice _ (spChoice K) := fun k => ok_choice T (k := k + 2) (Gp k)
  have Gmi : ∀ k, FnOk l.prog w K mg base CX0 (k + 3) T.a_mingled T.d_mingled _ (spMingled K) := fun k => ok_mingled T (k := k + 2) (Gp k)
  have Gnn : ∀ k, FnOk l.prog w K mg base CX0 (k + 3) T.a_new_name T.d_new_name _ spNew := fun k => ok_new_name T (k := k + 2) (Gp k)
  have Gsp : ∀ k, FnOk l.prog w K mg base CX0 (k + 1) T.a_spares T.d_spares _ (spLSp K) := fun k => ok_spares T (k := k)
  have Gne : ∀ k, FnOk l.prog w K mg base CX0 (k + 4) T.a_near T.d_near _ spNear := fun k => ok_near T (k := k + 3) (Gp (k + 1)) (Gch k) (Gsp (k + 2)) (Gnn k)
  have Gtr : ∀ k, FnOk l.prog w K mg base CX0 (k + 5) T.a_told_rows T.d_told_rows _ (spTR K) := fun k => ok_told_rows T (k := k + 4) (Gp (k + 2)) (Gne k)
  have Gfo : ∀ k, FnOk l.prog w K mg base CX0 (k + 6) T.a_form T.d_form _ (spForm K 2) := fun k => ok_form T (k := k + 3) (Gp (k + 1)) (Gch k) 2
  have Gtu : ∀ k, FnOk l.prog w K mg base CX0 (k + 7) T.a_turned T.d_turned _ (spTurned K) := fun k => ok_turned T (k := k + 6) (Gp (k + 4)) (Gne (k + 2)) (Gfo k)
  have Gso : ∀ k, FnOk l.prog w K mg base CX0 (k + 3) T.a_some T.d_some _ (spSome K) := fun k => ok_some T (k := k + 2) (Gp k)
  have Gro : ∀ k, FnOk l.prog w K mg base CX0 (k + 4) T.a_row T.d_row _ (spLRow K) := fun k => ok_row T (k := k + 3) (Gp (k + 1)) (Gmi k)
  have Gme : ∀ k, FnOk l.prog w K mg base CX0 (k + 5) T.a_menu T.d_menu _ (spLMenu K) := fun k => ok_menu T (k := k + 4) (Gp (k + 2)) (Gmi (k + 1)) (Gro k)
  have Gke : ∀ k, FnOk l.prog w K mg base CX0 (k + 3) T.a_key T.d_key _ (spLKey K) := fun k => ok_key T (k := k + 2) (Gp k)
  have Gbl : ∀ k, FnOk l.prog w K mg base CX0 (k + 1) T.a_blank T.d_blank _ (spBlank K) := fun k => ok_blank T (k := k)
  have Gcd : FnOk l.prog w K mg base CX0 10 T.a_child T.d_child _ (spChild K) := ok_child T (k := 9) (Gp 7) (Gne 5) (Gbl 8) (Gtr 4) (Gtu 2) (Gfo 3) (Gso 6)
  have Gpa : FnOk l.prog w K mg base CX0 10 T.a_parent T.d_parent _ (spParent K) := ok_parent T (k := 9) (Gp 7) (Gne 5) (Gbl 8) (Gtr 4) (Gtu 2) (Gfo 3) (Gso 6) (Gme 4) (Gke 6) (Gmi 6)
  have Gco : FnOk l.prog w K mg base CX0 21 T.a_component_of T.d_component_of _ (spCof K T.C_Component) := ok_component_of T (k := 19) (fn_calm Gci)
  have Gln : FnOk l.prog w K mg base CX0 7 T.a_law_numbered T.d_law_numbered _ (spLNumb K 5) := ok_law_numbered T (ok_parts T (k := 0)) 5
  have Gls : FnOk l.prog w K mg base CX0 9 T.a_law_stub T.d_law_stub _ (spLStub K) := ok_law_stub T (k := 8) (Gbl 7) (Gsp 7) (ok_words T (k := 7) Gln) (ok_full_looks T (k := 7))
  have Ggo : FnOk l.prog w K mg base CX0 22 T.a_got T.d_got _ (spGot K T.C_Component) := ok_got T pf (k := 21) Gst
  have Gsa : FnOk l.prog w K mg base CX0 22 T.a_same T.d_same _ (spSame K 20) := ok_same T (k := 1) (ok_number T (k := 0)) 20
  have Gis : FnOk l.prog w K mg base CX0 23 T.a_is T.d_is _ (spIs K T.C_Component) := ok_is T (k := 22) Gsa (ok_sorted T (k := 21))
  exact fn_up (ok_law T (k := 23) (ok_bag T (k := 22)) (fn_up Gcd (by decide)) (fn_up Gpa (by decide)) (fn_up Gco (by decide)) (fn_up Gls (by decide)) (fn_up Ggo (by decide)) (fn_up Gln (by decide)) (fn_up Gsa (by decide)) Gis) (by decide)
end K57
set_option Elab.async false
set_option linter.all false
set_option maxRecDepth 100000
set_option maxHeartbeats 4000000
namespace K57
open PySem PySem.Spec PyProof.Rows L2 XL
theorem top_mk {K : PySem.W.Frag} {W : World} {h : Heap} {mg : Str → Option Value} (X : K.In h) (G : h.Ns mainGlobals mg)
    {C0 : Addr}
    (ca0 : PySem.W.nsIn K mainGlobals "Component" = some (some (.ref C0)))
    {f0 : Addr} {od0 an0 : Option Addr} {sl0 : Array (Option Value)} {oc0 kV0 dc0 pm0 cd0 ct0 : Value}
    (a0 : PySem.W.nsIn K mainGlobals "is_name" = some (some (.ref f0)))
    (l0 : K.lookup f0 = some ⟨oc0, od0, .func (PySem.W.fnOf "is_name" "is_name" (defArgs s_is_name) (defBody s_is_name) (defScope s_is_name) .none kV0 dc0 pm0 an0 cd0 ct0), sl0⟩)
    (c0 : PySem.W.codeIn K cd0 "is_name" = true)
    (k0 : PySem.W.keepIn K (.ref f0) = true)
    {f1 : Addr} {od1 an1 : Option Addr} {sl1 : Array (Option Value)} {oc1 kV1 dc1 pm1 cd1 ct1 : Value}
    (a1 : PySem.W.nsIn K mainGlobals "is_number" = some (some (.ref f1)))
    (l1 : K.lookup f1 = some ⟨oc1, od1, .func (PySem.W.fnOf "is_number" "is_number" (defArgs s_is_number) (defBody s_is_number) (defScope s_is_number) .none kV1 dc1 pm1 an1 cd1 ct1), sl1⟩)
    (c1 : PySem.W.codeIn K cd1 "is_number" = true)
    (k1 : PySem.W.keepIn K (.ref f1) = true)
    {f2 : Addr} {od2 an2 : Option Addr} {sl2 : Array (Option Value)} {oc2 kV2 dc2 pm2 cd2 ct2 : Value}
    (a2 : PySem.W.nsIn K mainGlobals "is_part" = some (some (.ref f2)))
    (l2 : K.lookup f2 = some ⟨oc2, od2, .func (PySem.W.fnOf "is_part" "is_part" (defArgs s_is_part) (defBody s_is_part) (defScope s_is_part) .none kV2 dc2 pm2 an2 cd2 ct2), sl2⟩)
    (c2 : PySem.W.codeIn K cd2 "is_part" = true)
    (k2 : PySem.W.keepIn K (.ref f2) = true)
    {f3 : Addr} {od3 an3 : Option Addr} {sl3 : Array (Option Value)} {oc3 kV3 dc3 pm3 cd3 ct3 : Value}
    (a3 : PySem.W.nsIn K mainGlobals "check_form" = some (some (.ref f3)))
    (l3 : K.lookup f3 = some ⟨oc3, od3, .func (PySem.W.fnOf "check_form" "check_form" (defArgs s_check_form) (defBody s_check_form) (defScope s_check_form) .none kV3 dc3 pm3 an3 cd3 ct3), sl3⟩)
    (c3 : PySem.W.codeIn K cd3 "check_form" = true)
    (k3 : PySem.W.keepIn K (.ref f3) = true)
    {f4 : Addr} {od4 an4 : Option Addr} {sl4 : Array (Option Value)} {oc4 kV4 dc4 pm4 cd4 ct4 : Value}
    (a4 : PySem.W.nsIn K mainGlobals "names_of" = some (some (.ref f4)))
    (l4 : K.lookup f4 = some ⟨oc4, od4, .func (PySem.W.fnOf "names_of" "names_of" (defArgs s_names_of) (defBody s_names_of) (defScope s_names_of) .none kV4 dc4 pm4 an4 cd4 ct4), sl4⟩)
    (c4 : PySem.W.codeIn K cd4 "names_of" = true)
    (k4 : PySem.W.keepIn K (.ref f4) = true)
    {f5 : Addr} {od5 an5 : Option Addr} {sl5 : Array (Option Value)} {oc5 kV5 dc5 pm5 cd5 ct5 : Value}
    (a5 : PySem.W.nsIn K mainGlobals "check_row" = some (some (.ref f5)))
    (l5 : K.lookup f5 = some ⟨oc5, od5, .func (PySem.W.fnOf "check_row" "check_row" (defArgs s_check_row) (defBody s_check_row) (defScope s_check_row) .none kV5 dc5 pm5 an5 cd5 ct5), sl5⟩)
    (c5 : PySem.W.codeIn K cd5 "check_row" = true)
    (k5 : PySem.W.keepIn K (.ref f5) = true)
    {f6 : Addr} {od6 an6 : Option Addr} {sl6 : Array (Option Value)} {oc6 kV6 dc6 pm6 cd6 ct6 : Value}
    (a6 : PySem.W.nsIn K mainGlobals "text_shape" = some (some (.ref f6)))
    (l6 : K.lookup f6 = some ⟨oc6, od6, .func (PySem.W.fnOf "text_shape" "text_shape" (defArgs s_text_shape) (defBody s_text_shape) (defScope s_text_shape) .none kV6 dc6 pm6 an6 cd6 ct6), sl6⟩)
    (c6 : PySem.W.codeIn K cd6 "text_shape" = true)
    (k6 : PySem.W.keepIn K (.ref f6) = true)
    {f7 : Addr} {od7 an7 : Option Addr} {sl7 : Array (Option Value)} {oc7 kV7 dc7 pm7 cd7 ct7 : Value}
    (a7 : PySem.W.nsIn K mainGlobals "button_shape" = some (some (.ref f7)))
    (l7 : K.lookup f7 = some ⟨oc7, od7, .func (PySem.W.fnOf "button_shape" "button_shape" (defArgs s_button_shape) (defBody s_button_shape) (defScope s_button_shape) .none kV7 dc7 pm7 an7 cd7 ct7), sl7⟩)
    (c7 : PySem.W.codeIn K cd7 "button_shape" = true)
    (k7 : PySem.W.keepIn K (.ref f7) = true)
    {f8 : Addr} {od8 an8 : Option Addr} {sl8 : Array (Option Value)} {oc8 kV8 dc8 pm8 cd8 ct8 : Value}
    (a8 : PySem.W.nsIn K mainGlobals "col_shape" = some (some (.ref f8)))
    (l8 : K.lookup f8 = some ⟨oc8, od8, .func (PySem.W.fnOf "col_shape" "col_shape" (defArgs s_col_shape) (defBody s_col_shape) (defScope s_col_shape) .none kV8 dc8 pm8 an8 cd8 ct8), sl8⟩)
    (c8 : PySem.W.codeIn K cd8 "col_shape" = true)
    (k8 : PySem.W.keepIn K (.ref f8) = true)
    {f9 : Addr} {od9 an9 : Option Addr} {sl9 : Array (Option Value)} {oc9 kV9 dc9 pm9 cd9 ct9 : Value}
    (a9 : PySem.W.nsIn K mainGlobals "part_shapes" = some (some (.ref f9)))
    (l9 : K.lookup f9 = some ⟨oc9, od9, .func (PySem.W.fnOf "part_shapes" "part_shapes" (defArgs s_part_shapes) (defBody s_part_shapes) (defScope s_part_shapes) .none kV9 dc9 pm9 an9 cd9 ct9), sl9⟩)
    (c9 : PySem.W.codeIn K cd9 "part_shapes" = true)
    (k9 : PySem.W.keepIn K (.ref f9) = true)
    {f10 : Addr} {od10 an10 : Option Addr} {sl10 : Array (Option Value)} {oc10 kV10 dc10 pm10 cd10 ct10 : Value}
    (a10 : PySem.W.nsIn K mainGlobals "numbered" = some (some (.ref f10)))
    (l10 : K.lookup f10 = some ⟨oc10, od10, .func (PySem.W.fnOf "numbered" "numbered" (defArgs s_numbered) (defBody s_numbered) (defScope s_numbered) .none kV10 dc10 pm10 an10 cd10 ct10), sl10⟩)
    (c10 : PySem.W.codeIn K cd10 "numbered" = true)
    (k10 : PySem.W.keepIn K (.ref f10) = true)
    {f11 : Addr} {od11 an11 : Option Addr} {sl11 : Array (Option Value)} {oc11 kV11 dc11 pm11 cd11 ct11 : Value}
    (a11 : PySem.W.nsIn K mainGlobals "good_form" = some (some (.ref f11)))
    (l11 : K.lookup f11 = some ⟨oc11, od11, .func (PySem.W.fnOf "good_form" "good_form" (defArgs s_good_form) (defBody s_good_form) (defScope s_good_form) .none kV11 dc11 pm11 an11 cd11 ct11), sl11⟩)
    (c11 : PySem.W.codeIn K cd11 "good_form" = true)
    (k11 : PySem.W.keepIn K (.ref f11) = true)
    {f12 : Addr} {od12 an12 : Option Addr} {sl12 : Array (Option Value)} {oc12 kV12 dc12 pm12 cd12 ct12 : Value}
    (a12 : PySem.W.nsIn K mainGlobals "good_rows" = some (some (.ref f12)))
    (l12 : K.lookup f12 = some ⟨oc12, od12, .func (PySem.W.fnOf "good_rows" "good_rows" (defArgs s_good_rows) (defBody s_good_rows) (defScope s_good_rows) .none kV12 dc12 pm12 an12 cd12 ct12), sl12⟩)
    (c12 : PySem.W.codeIn K cd12 "good_rows" = true)
    (k12 : PySem.W.keepIn K (.ref f12) = true)
    {f13 : Addr} {od13 an13 : Option Addr} {sl13 : Array (Option Value)} {oc13 kV13 dc13 pm13 cd13 ct13 : Value}
    (a13 : PySem.W.nsIn K mainGlobals "fresh" = some (some (.ref f13)))
    (l13 : K.lookup f13 = some ⟨oc13, od13, .func (PySem.W.fnOf "fresh" "fresh" (defArgs s_fresh) (defBody s_fresh) (defScope s_fresh) .none kV13 dc13 pm13 an13 cd13 ct13), sl13⟩)
    (c13 : PySem.W.codeIn K cd13 "fresh" = true)
    (k13 : PySem.W.keepIn K (.ref f13) = true)
    {f14 : Addr} {od14 an14 : Option Addr} {sl14 : Array (Option Value)} {oc14 kV14 dc14 pm14 cd14 ct14 : Value}
    (a14 : PySem.W.nsIn K mainGlobals "different" = some (some (.ref f14)))
    (l14 : K.lookup f14 = some ⟨oc14, od14, .func (PySem.W.fnOf "different" "different" (defArgs s_different) (defBody s_different) (defScope s_different) .none kV14 dc14 pm14 an14 cd14 ct14), sl14⟩)
    (c14 : PySem.W.codeIn K cd14 "different" = true)
    (k14 : PySem.W.keepIn K (.ref f14) = true)
    {f15 : Addr} {od15 an15 : Option Addr} {sl15 : Array (Option Value)} {oc15 kV15 dc15 pm15 cd15 ct15 : Value}
    (a15 : PySem.W.nsIn K mainGlobals "good_told" = some (some (.ref f15)))
    (l15 : K.lookup f15 = some ⟨oc15, od15, .func (PySem.W.fnOf "good_told" "good_told" (defArgs s_good_told) (defBody s_good_told) (defScope s_good_told) .none kV15 dc15 pm15 an15 cd15 ct15), sl15⟩)
    (c15 : PySem.W.codeIn K cd15 "good_told" = true)
    (k15 : PySem.W.keepIn K (.ref f15) = true)
    {f16 : Addr} {od16 an16 : Option Addr} {sl16 : Array (Option Value)} {oc16 kV16 dc16 pm16 cd16 ct16 : Value}
    (a16 : PySem.W.nsIn K mainGlobals "good_menu" = some (some (.ref f16)))
    (l16 : K.lookup f16 = some ⟨oc16, od16, .func (PySem.W.fnOf "good_menu" "good_menu" (defArgs s_good_menu) (defBody s_good_menu) (defScope s_good_menu) .none kV16 dc16 pm16 an16 cd16 ct16), sl16⟩)
    (c16 : PySem.W.codeIn K cd16 "good_menu" = true)
    (k16 : PySem.W.keepIn K (.ref f16) = true)
    {f17 : Addr} {od17 an17 : Option Addr} {sl17 : Array (Option Value)} {oc17 kV17 dc17 pm17 cd17 ct17 : Value}
    (a17 : PySem.W.nsIn K mainGlobals "good_shape" = some (some (.ref f17)))
    (l17 : K.lookup f17 = some ⟨oc17, od17, .func (PySem.W.fnOf "good_shape" "good_shape" (defArgs s_good_shape) (defBody s_good_shape) (defScope s_good_shape) .none kV17 dc17 pm17 an17 cd17 ct17), sl17⟩)
    (c17 : PySem.W.codeIn K cd17 "good_shape" = true)
    (k17 : PySem.W.keepIn K (.ref f17) = true)
    {f18 : Addr} {od18 an18 : Option Addr} {sl18 : Array (Option Value)} {oc18 kV18 dc18 pm18 cd18 ct18 : Value}
    (a18 : PySem.W.nsIn K mainGlobals "good_children" = some (some (.ref f18)))
    (l18 : K.lookup f18 = some ⟨oc18, od18, .func (PySem.W.fnOf "good_children" "good_children" (defArgs s_good_children) (defBody s_good_children) (defScope s_good_children) .none kV18 dc18 pm18 an18 cd18 ct18), sl18⟩)
    (c18 : PySem.W.codeIn K cd18 "good_children" = true)
    (k18 : PySem.W.keepIn K (.ref f18) = true)
    {f19 : Addr} {od19 an19 : Option Addr} {sl19 : Array (Option Value)} {oc19 kV19 dc19 pm19 cd19 ct19 : Value}
    (a19 : PySem.W.nsIn K mainGlobals "part_numbers" = some (some (.ref f19)))
    (l19 : K.lookup f19 = some ⟨oc19, od19, .func (PySem.W.fnOf "part_numbers" "part_numbers" (defArgs s_part_numbers) (defBody s_part_numbers) (defScope s_part_numbers) .none kV19 dc19 pm19 an19 cd19 ct19), sl19⟩)
    (c19 : PySem.W.codeIn K cd19 "part_numbers" = true)
    (k19 : PySem.W.keepIn K (.ref f19) = true)
    {f20 : Addr} {od20 an20 : Option Addr} {sl20 : Array (Option Value)} {oc20 dc20 pm20 cd20 ct20 : Value}
    (a20 : PySem.W.findIn K (.ref C0) "__init__" = some (some (.ref f20)))
    (i20 : PySem.W.isFn K (.ref f20) = true)
    {kD20 : Addr} {ke20_0 : Addr} {kc20_0 : Option Addr} {kn20_0 : Nat} {ks20_0 : Array (Option Value)} {ke20_1 : Addr} {kc20_1 : Option Addr} {kn20_1 : Nat} {ks20_1 : Array (Option Value)} {ke20_2 : Addr} {kc20_2 : Option Addr} {kn20_2 : Nat} {ks20_2 : Array (Option Value)} {ke20_3 : Addr} {kc20_3 : Option Addr} {kn20_3 : Nat} {ks20_3 : Array (Option Value)} {ke20_4 : Addr} {kc20_4 : Option Addr} {kn20_4 : Nat} {ks20_4 : Array (Option Value)} {ke20_5 : Addr} {kc20_5 : Option Addr} {kn20_5 : Nat} {ks20_5 : Array (Option Value)} {ke20_6 : Addr} {kc20_6 : Option Addr} {kn20_6 : Nat} {ks20_6 : Array (Option Value)}
    (l20 : K.lookup f20 = some ⟨oc20, od20, .func (PySem.W.fnOf "__init__" "Component.__init__" (defArgs s_Component_init) (defBody s_Component_init) (defScope s_Component_init) .none (.ref kD20) dc20 pm20 an20 cd20 ct20), sl20⟩)
    (kd20_0 : PySem.W.nsIn K kD20 "takes" = some (some (.ref ke20_0)))
    (kl20_0 : K.lookup ke20_0 = some ⟨.type "tuple", kc20_0, .seq #[] kn20_0, ks20_0⟩)
    (kd20_1 : PySem.W.nsIn K kD20 "hears" = some (some (.ref ke20_1)))
    (kl20_1 : K.lookup ke20_1 = some ⟨.type "tuple", kc20_1, .seq #[] kn20_1, ks20_1⟩)
    (kd20_2 : PySem.W.nsIn K kD20 "cells" = some (some (.ref ke20_2)))
    (kl20_2 : K.lookup ke20_2 = some ⟨.type "tuple", kc20_2, .seq #[] kn20_2, ks20_2⟩)
    (kd20_3 : PySem.W.nsIn K kD20 "asks" = some (some (.ref ke20_3)))
    (kl20_3 : K.lookup ke20_3 = some ⟨.type "tuple", kc20_3, .seq #[] kn20_3, ks20_3⟩)
    (kd20_4 : PySem.W.nsIn K kD20 "gives" = some (some (.ref ke20_4)))
    (kl20_4 : K.lookup ke20_4 = some ⟨.type "tuple", kc20_4, .seq #[] kn20_4, ks20_4⟩)
    (kd20_5 : PySem.W.nsIn K kD20 "effects" = some (some (.ref ke20_5)))
    (kl20_5 : K.lookup ke20_5 = some ⟨.type "tuple", kc20_5, .seq #[] kn20_5, ks20_5⟩)
    (kd20_6 : PySem.W.nsIn K kD20 "deeds" = some (some (.ref ke20_6)))
    (kl20_6 : K.lookup ke20_6 = some ⟨.type "tuple", kc20_6, .seq #[] kn20_6, ks20_6⟩)
    (kd20_7 : PySem.W.nsIn K kD20 "looks" = some (some .none))
    (kd20_8 : PySem.W.nsIn K kD20 "island" = some (some .none))
    (c20 : PySem.W.codeIn K cd20 "Component.__init__" = true)
    (k20 : PySem.W.keepIn K (.ref f20) = true)
    {f21 : Addr} {od21 an21 : Option Addr} {sl21 : Array (Option Value)} {oc21 kV21 dc21 pm21 cd21 ct21 : Value}
    (a21 : PySem.W.findIn K (.ref C0) "check_told" = some (some (.ref f21)))
    (i21 : PySem.W.isFn K (.ref f21) = true)
    (l21 : K.lookup f21 = some ⟨oc21, od21, .func (PySem.W.fnOf "check_told" "Component.check_told" (defArgs s_Component_check_told) (defBody s_Component_check_told) (defScope s_Component_check_told) .none kV21 dc21 pm21 an21 cd21 ct21), sl21⟩)
    (c21 : PySem.W.codeIn K cd21 "Component.check_told" = true)
    (k21 : PySem.W.keepIn K (.ref f21) = true)
    {f22 : Addr} {od22 an22 : Option Addr} {sl22 : Array (Option Value)} {oc22 kV22 dc22 pm22 cd22 ct22 : Value}
    (a22 : PySem.W.findIn K (.ref C0) "check_works" = some (some (.ref f22)))
    (i22 : PySem.W.isFn K (.ref f22) = true)
    (l22 : K.lookup f22 = some ⟨oc22, od22, .func (PySem.W.fnOf "check_works" "Component.check_works" (defArgs s_Component_check_works) (defBody s_Component_check_works) (defScope s_Component_check_works) .none kV22 dc22 pm22 an22 cd22 ct22), sl22⟩)
    (c22 : PySem.W.codeIn K cd22 "Component.check_works" = true)
    (k22 : PySem.W.keepIn K (.ref f22) = true)
    {f23 : Addr} {od23 an23 : Option Addr} {sl23 : Array (Option Value)} {oc23 kV23 dc23 pm23 cd23 ct23 : Value}
    {p23 : Addr} {pr23 : List Value}
    (a23 : PySem.W.findIn K (.ref C0) "within" = some (some (.ref p23)))
    (pt23 : PySem.W.typeIn K (.ref p23) = some (.type "staticmethod"))
    (pg23 : PySem.W.specialIn K (.ref p23) "__get__" = some (some (.builtin "staticmethod.__get__")))
    (pk23 : PySem.W.takesIn K (.ref p23) = some false)
    (pc23 : PySem.W.recIn K p23 "staticmethod" = some (.ref f23 :: pr23))
    (l23 : K.lookup f23 = some ⟨oc23, od23, .func (PySem.W.fnOf "within" "Component.within" (defArgs s_Component_within) (defBody s_Component_within) (defScope s_Component_within) .none kV23 dc23 pm23 an23 cd23 ct23), sl23⟩)
    (c23 : PySem.W.codeIn K cd23 "Component.within" = true)
    (k23 : PySem.W.keepIn K (.ref f23) = true)
    {f24 : Addr} {od24 an24 : Option Addr} {sl24 : Array (Option Value)} {oc24 kV24 dc24 pm24 cd24 ct24 : Value}
    {p24 : Addr} {pr24 : List Value}
    (a24 : PySem.W.findIn K (.ref C0) "good_island" = some (some (.ref p24)))
    (pt24 : PySem.W.typeIn K (.ref p24) = some (.type "staticmethod"))
    (pg24 : PySem.W.specialIn K (.ref p24) "__get__" = some (some (.builtin "staticmethod.__get__")))
    (pk24 : PySem.W.takesIn K (.ref p24) = some false)
    (pc24 : PySem.W.recIn K p24 "staticmethod" = some (.ref f24 :: pr24))
    (l24 : K.lookup f24 = some ⟨oc24, od24, .func (PySem.W.fnOf "good_island" "Component.good_island" (defArgs s_Component_good_island) (defBody s_Component_good_island) (defScope s_Component_good_island) .none kV24 dc24 pm24 an24 cd24 ct24), sl24⟩)
    (c24 : PySem.W.codeIn K cd24 "Component.good_island" = true)
    (k24 : PySem.W.keepIn K (.ref f24) = true)
    {f25 : Addr} {od25 an25 : Option Addr} {sl25 : Array (Option Value)} {oc25 kV25 dc25 pm25 cd25 ct25 : Value}
    (a25 : PySem.W.findIn K (.ref C0) "good_deed" = some (some (.ref f25)))
    (i25 : PySem.W.isFn K (.ref f25) = true)
    (l25 : K.lookup f25 = some ⟨oc25, od25, .func (PySem.W.fnOf "good_deed" "Component.good_deed" (defArgs s_Component_good_deed) (defBody s_Component_good_deed) (defScope s_Component_good_deed) .none kV25 dc25 pm25 an25 cd25 ct25), sl25⟩)
    (c25 : PySem.W.codeIn K cd25 "Component.good_deed" = true)
    (k25 : PySem.W.keepIn K (.ref f25) = true)
    {f26 : Addr} {od26 an26 : Option Addr} {sl26 : Array (Option Value)} {oc26 kV26 dc26 pm26 cd26 ct26 : Value}
    (a26 : PySem.W.nsIn K mainGlobals "spare_names" = some (some (.ref f26)))
    (l26 : K.lookup f26 = some ⟨oc26, od26, .func (PySem.W.fnOf "spare_names" "spare_names" (defArgs s_spare_names) (defBody s_spare_names) (defScope s_spare_names) .none kV26 dc26 pm26 an26 cd26 ct26), sl26⟩)
    (c26 : PySem.W.codeIn K cd26 "spare_names" = true)
    (k26 : PySem.W.keepIn K (.ref f26) = true)
    {f27 : Addr} {od27 an27 : Option Addr} {sl27 : Array (Option Value)} {oc27 kV27 dc27 pm27 cd27 ct27 : Value}
    (a27 : PySem.W.nsIn K mainGlobals "words_of" = some (some (.ref f27)))
    (l27 : K.lookup f27 = some ⟨oc27, od27, .func (PySem.W.fnOf "words_of" "words_of" (defArgs s_words_of) (defBody s_words_of) (defScope s_words_of) .none kV27 dc27 pm27 an27 cd27 ct27), sl27⟩)
    (c27 : PySem.W.codeIn K cd27 "words_of" = true)
    (k27 : PySem.W.keepIn K (.ref f27) = true)
    {f28 : Addr} {od28 an28 : Option Addr} {sl28 : Array (Option Value)} {oc28 kV28 dc28 pm28 cd28 ct28 : Value}
    (a28 : PySem.W.nsIn K mainGlobals "one_more" = some (some (.ref f28)))
    (l28 : K.lookup f28 = some ⟨oc28, od28, .func (PySem.W.fnOf "one_more" "one_more" (defArgs s_one_more) (defBody s_one_more) (defScope s_one_more) .none kV28 dc28 pm28 an28 cd28 ct28), sl28⟩)
    (c28 : PySem.W.codeIn K cd28 "one_more" = true)
    (k28 : PySem.W.keepIn K (.ref f28) = true)
    {f29 : Addr} {od29 an29 : Option Addr} {sl29 : Array (Option Value)} {oc29 kV29 dc29 pm29 cd29 ct29 : Value}
    (a29 : PySem.W.nsIn K mainGlobals "stub" = some (some (.ref f29)))
    (l29 : K.lookup f29 = some ⟨oc29, od29, .func (PySem.W.fnOf "stub" "stub" (defArgs s_stub) (defBody s_stub) (defScope s_stub) .none kV29 dc29 pm29 an29 cd29 ct29), sl29⟩)
    (c29 : PySem.W.codeIn K cd29 "stub" = true)
    (k29 : PySem.W.keepIn K (.ref f29) = true)
    {f30 : Addr} {od30 an30 : Option Addr} {sl30 : Array (Option Value)} {oc30 kV30 dc30 pm30 cd30 ct30 : Value}
    (a30 : PySem.W.nsIn K mainGlobals "_law_mixed" = some (some (.ref f30)))
    (l30 : K.lookup f30 = some ⟨oc30, od30, .func (PySem.W.fnOf "_law_mixed" "_law_mixed" (defArgs s_mixed) (defBody s_mixed) (defScope s_mixed) .none kV30 dc30 pm30 an30 cd30 ct30), sl30⟩)
    (c30 : PySem.W.codeIn K cd30 "_law_mixed" = true)
    (k30 : PySem.W.keepIn K (.ref f30) = true)
    {f31 : Addr} {od31 an31 : Option Addr} {sl31 : Array (Option Value)} {oc31 kV31 dc31 pm31 cd31 ct31 : Value}
    (a31 : PySem.W.nsIn K mainGlobals "_law_bag" = some (some (.ref f31)))
    (l31 : K.lookup f31 = some ⟨oc31, od31, .func (PySem.W.fnOf "_law_bag" "_law_bag" (defArgs s_bag) (defBody s_bag) (defScope s_bag) .none kV31 dc31 pm31 an31 cd31 ct31), sl31⟩)
    (c31 : PySem.W.codeIn K cd31 "_law_bag" = true)
    (k31 : PySem.W.keepIn K (.ref f31) = true)
    {f32 : Addr} {od32 an32 : Option Addr} {sl32 : Array (Option Value)} {oc32 kV32 dc32 pm32 cd32 ct32 : Value}
    (a32 : PySem.W.nsIn K mainGlobals "_law_pick" = some (some (.ref f32)))
    (l32 : K.lookup f32 = some ⟨oc32, od32, .func (PySem.W.fnOf "_law_pick" "_law_pick" (defArgs s_pick) (defBody s_pick) (defScope s_pick) .none kV32 dc32 pm32 an32 cd32 ct32), sl32⟩)
    (c32 : PySem.W.codeIn K cd32 "_law_pick" = true)
    (k32 : PySem.W.keepIn K (.ref f32) = true)
    {f33 : Addr} {od33 an33 : Option Addr} {sl33 : Array (Option Value)} {oc33 kV33 dc33 pm33 cd33 ct33 : Value}
    (a33 : PySem.W.nsIn K mainGlobals "_law_choice" = some (some (.ref f33)))
    (l33 : K.lookup f33 = some ⟨oc33, od33, .func (PySem.W.fnOf "_law_choice" "_law_choice" (defArgs s_choice) (defBody s_choice) (defScope s_choice) .none kV33 dc33 pm33 an33 cd33 ct33), sl33⟩)
    (c33 : PySem.W.codeIn K cd33 "_law_choice" = true)
    (k33 : PySem.W.keepIn K (.ref f33) = true)
    {f34 : Addr} {od34 an34 : Option Addr} {sl34 : Array (Option Value)} {oc34 kV34 dc34 pm34 cd34 ct34 : Value}
    (a34 : PySem.W.nsIn K mainGlobals "_law_mingled" = some (some (.ref f34)))
    (l34 : K.lookup f34 = some ⟨oc34, od34, .func (PySem.W.fnOf "_law_mingled" "_law_mingled" (defArgs s_mingled) (defBody s_mingled) (defScope s_mingled) .none kV34 dc34 pm34 an34 cd34 ct34), sl34⟩)
    (c34 : PySem.W.codeIn K cd34 "_law_mingled" = true)
    (k34 : PySem.W.keepIn K (.ref f34) = true)
    {f35 : Addr} {od35 an35 : Option Addr} {sl35 : Array (Option Value)} {oc35 kV35 dc35 pm35 cd35 ct35 : Value}
    (a35 : PySem.W.nsIn K mainGlobals "_law_sorted" = some (some (.ref f35)))
    (l35 : K.lookup f35 = some ⟨oc35, od35, .func (PySem.W.fnOf "_law_sorted" "_law_sorted" (defArgs s_sorted) (defBody s_sorted) (defScope s_sorted) .none kV35 dc35 pm35 an35 cd35 ct35), sl35⟩)
    (c35 : PySem.W.codeIn K cd35 "_law_sorted" = true)
    (k35 : PySem.W.keepIn K (.ref f35) = true)
    {f36 : Addr} {od36 an36 : Option Addr} {sl36 : Array (Option Value)} {oc36 kV36 dc36 pm36 cd36 ct36 : Value}
    (a36 : PySem.W.nsIn K mainGlobals "_law_number" = some (some (.ref f36)))
    (l36 : K.lookup f36 = some ⟨oc36, od36, .func (PySem.W.fnOf "_law_number" "_law_number" (defArgs s_number) (defBody s_number) (defScope s_number) .none kV36 dc36 pm36 an36 cd36 ct36), sl36⟩)
    (c36 : PySem.W.codeIn K cd36 "_law_number" = true)
    (k36 : PySem.W.keepIn K (.ref f36) = true)
    {f37 : Addr} {od37 an37 : Option Addr} {sl37 : Array (Option Value)} {oc37 kV37 dc37 pm37 cd37 ct37 : Value}
    (a37 : PySem.W.nsIn K mainGlobals "_law_new_name" = some (some (.ref f37)))
    (l37 : K.lookup f37 = some ⟨oc37, od37, .func (PySem.W.fnOf "_law_new_name" "_law_new_name" (defArgs s_new_name) (defBody s_new_name) (defScope s_new_name) .none kV37 dc37 pm37 an37 cd37 ct37), sl37⟩)
    (c37 : PySem.W.codeIn K cd37 "_law_new_name" = true)
    (k37 : PySem.W.keepIn K (.ref f37) = true)
    {f38 : Addr} {od38 an38 : Option Addr} {sl38 : Array (Option Value)} {oc38 kV38 dc38 pm38 cd38 ct38 : Value}
    (a38 : PySem.W.nsIn K mainGlobals "_law_form" = some (some (.ref f38)))
    (l38 : K.lookup f38 = some ⟨oc38, od38, .func (PySem.W.fnOf "_law_form" "_law_form" (defArgs s_form) (defBody s_form) (defScope s_form) .none kV38 dc38 pm38 an38 cd38 ct38), sl38⟩)
    (c38 : PySem.W.codeIn K cd38 "_law_form" = true)
    (k38 : PySem.W.keepIn K (.ref f38) = true)
    {f39 : Addr} {od39 an39 : Option Addr} {sl39 : Array (Option Value)} {oc39 kV39 dc39 pm39 cd39 ct39 : Value}
    (a39 : PySem.W.nsIn K mainGlobals "_law_parts" = some (some (.ref f39)))
    (l39 : K.lookup f39 = some ⟨oc39, od39, .func (PySem.W.fnOf "_law_parts" "_law_parts" (defArgs s_parts) (defBody s_parts) (defScope s_parts) .none kV39 dc39 pm39 an39 cd39 ct39), sl39⟩)
    (c39 : PySem.W.codeIn K cd39 "_law_parts" = true)
    (k39 : PySem.W.keepIn K (.ref f39) = true)
    {f40 : Addr} {od40 an40 : Option Addr} {sl40 : Array (Option Value)} {oc40 kV40 dc40 pm40 cd40 ct40 : Value}
    (a40 : PySem.W.nsIn K mainGlobals "_law_numbered" = some (some (.ref f40)))
    (l40 : K.lookup f40 = some ⟨oc40, od40, .func (PySem.W.fnOf "_law_numbered" "_law_numbered" (defArgs s_law_numbered) (defBody s_law_numbered) (defScope s_law_numbered) .none kV40 dc40 pm40 an40 cd40 ct40), sl40⟩)
    (c40 : PySem.W.codeIn K cd40 "_law_numbered" = true)
    (k40 : PySem.W.keepIn K (.ref f40) = true)
    {f41 : Addr} {od41 an41 : Option Addr} {sl41 : Array (Option Value)} {oc41 kV41 dc41 pm41 cd41 ct41 : Value}
    (a41 : PySem.W.nsIn K mainGlobals "_law_component_of" = some (some (.ref f41)))
    (l41 : K.lookup f41 = some ⟨oc41, od41, .func (PySem.W.fnOf "_law_component_of" "_law_component_of" (defArgs s_component_of) (defBody s_component_of) (defScope s_component_of) .none kV41 dc41 pm41 an41 cd41 ct41), sl41⟩)
    (c41 : PySem.W.codeIn K cd41 "_law_component_of" = true)
    (k41 : PySem.W.keepIn K (.ref f41) = true)
    {f42 : Addr} {od42 an42 : Option Addr} {sl42 : Array (Option Value)} {oc42 kV42 dc42 pm42 cd42 ct42 : Value}
    (a42 : PySem.W.nsIn K mainGlobals "_law_blank" = some (some (.ref f42)))
    (l42 : K.lookup f42 = some ⟨oc42, od42, .func (PySem.W.fnOf "_law_blank" "_law_blank" (defArgs s_blank) (defBody s_blank) (defScope s_blank) .none kV42 dc42 pm42 an42 cd42 ct42), sl42⟩)
    (c42 : PySem.W.codeIn K cd42 "_law_blank" = true)
    (k42 : PySem.W.keepIn K (.ref f42) = true)
    {f43 : Addr} {od43 an43 : Option Addr} {sl43 : Array (Option Value)} {oc43 kV43 dc43 pm43 cd43 ct43 : Value}
    (a43 : PySem.W.nsIn K mainGlobals "_law_full_looks" = some (some (.ref f43)))
    (l43 : K.lookup f43 = some ⟨oc43, od43, .func (PySem.W.fnOf "_law_full_looks" "_law_full_looks" (defArgs s_full_looks) (defBody s_full_looks) (defScope s_full_looks) .none kV43 dc43 pm43 an43 cd43 ct43), sl43⟩)
    (c43 : PySem.W.codeIn K cd43 "_law_full_looks" = true)
    (k43 : PySem.W.keepIn K (.ref f43) = true)
    {f44 : Addr} {od44 an44 : Option Addr} {sl44 : Array (Option Value)} {oc44 kV44 dc44 pm44 cd44 ct44 : Value}
    (a44 : PySem.W.nsIn K mainGlobals "_law_some" = some (some (.ref f44)))
    (l44 : K.lookup f44 = some ⟨oc44, od44, .func (PySem.W.fnOf "_law_some" "_law_some" (defArgs s_some) (defBody s_some) (defScope s_some) .none kV44 dc44 pm44 an44 cd44 ct44), sl44⟩)
    (c44 : PySem.W.codeIn K cd44 "_law_some" = true)
    (k44 : PySem.W.keepIn K (.ref f44) = true)
    {f45 : Addr} {od45 an45 : Option Addr} {sl45 : Array (Option Value)} {oc45 kV45 dc45 pm45 cd45 ct45 : Value}
    (a45 : PySem.W.nsIn K mainGlobals "_law_row" = some (some (.ref f45)))
    (l45 : K.lookup f45 = some ⟨oc45, od45, .func (PySem.W.fnOf "_law_row" "_law_row" (defArgs s_row) (defBody s_row) (defScope s_row) .none kV45 dc45 pm45 an45 cd45 ct45), sl45⟩)
    (c45 : PySem.W.codeIn K cd45 "_law_row" = true)
    (k45 : PySem.W.keepIn K (.ref f45) = true)
    {f46 : Addr} {od46 an46 : Option Addr} {sl46 : Array (Option Value)} {oc46 kV46 dc46 pm46 cd46 ct46 : Value}
    (a46 : PySem.W.nsIn K mainGlobals "_law_menu" = some (some (.ref f46)))
    (l46 : K.lookup f46 = some ⟨oc46, od46, .func (PySem.W.fnOf "_law_menu" "_law_menu" (defArgs s_menu) (defBody s_menu) (defScope s_menu) .none kV46 dc46 pm46 an46 cd46 ct46), sl46⟩)
    (c46 : PySem.W.codeIn K cd46 "_law_menu" = true)
    (k46 : PySem.W.keepIn K (.ref f46) = true)
    {f47 : Addr} {od47 an47 : Option Addr} {sl47 : Array (Option Value)} {oc47 kV47 dc47 pm47 cd47 ct47 : Value}
    (a47 : PySem.W.nsIn K mainGlobals "_law_key" = some (some (.ref f47)))
    (l47 : K.lookup f47 = some ⟨oc47, od47, .func (PySem.W.fnOf "_law_key" "_law_key" (defArgs s_key) (defBody s_key) (defScope s_key) .none kV47 dc47 pm47 an47 cd47 ct47), sl47⟩)
    (c47 : PySem.W.codeIn K cd47 "_law_key" = true)
    (k47 : PySem.W.keepIn K (.ref f47) = true)
    {f48 : Addr} {od48 an48 : Option Addr} {sl48 : Array (Option Value)} {oc48 kV48 dc48 pm48 cd48 ct48 : Value}
    (a48 : PySem.W.nsIn K mainGlobals "_law_spares" = some (some (.ref f48)))
    (l48 : K.lookup f48 = some ⟨oc48, od48, .func (PySem.W.fnOf "_law_spares" "_law_spares" (defArgs s_spares) (defBody s_spares) (defScope s_spares) .none kV48 dc48 pm48 an48 cd48 ct48), sl48⟩)
    (c48 : PySem.W.codeIn K cd48 "_law_spares" = true)
    (k48 : PySem.W.keepIn K (.ref f48) = true)
    {f49 : Addr} {od49 an49 : Option Addr} {sl49 : Array (Option Value)} {oc49 kV49 dc49 pm49 cd49 ct49 : Value}
    (a49 : PySem.W.nsIn K mainGlobals "_law_near" = some (some (.ref f49)))
    (l49 : K.lookup f49 = some ⟨oc49, od49, .func (PySem.W.fnOf "_law_near" "_law_near" (defArgs s_near) (defBody s_near) (defScope s_near) .none kV49 dc49 pm49 an49 cd49 ct49), sl49⟩)
    (c49 : PySem.W.codeIn K cd49 "_law_near" = true)
    (k49 : PySem.W.keepIn K (.ref f49) = true)
    {f50 : Addr} {od50 an50 : Option Addr} {sl50 : Array (Option Value)} {oc50 kV50 dc50 pm50 cd50 ct50 : Value}
    (a50 : PySem.W.nsIn K mainGlobals "_law_told_rows" = some (some (.ref f50)))
    (l50 : K.lookup f50 = some ⟨oc50, od50, .func (PySem.W.fnOf "_law_told_rows" "_law_told_rows" (defArgs s_told_rows) (defBody s_told_rows) (defScope s_told_rows) .none kV50 dc50 pm50 an50 cd50 ct50), sl50⟩)
    (c50 : PySem.W.codeIn K cd50 "_law_told_rows" = true)
    (k50 : PySem.W.keepIn K (.ref f50) = true)
    {f51 : Addr} {od51 an51 : Option Addr} {sl51 : Array (Option Value)} {oc51 kV51 dc51 pm51 cd51 ct51 : Value}
    (a51 : PySem.W.nsIn K mainGlobals "_law_words" = some (some (.ref f51)))
    (l51 : K.lookup f51 = some ⟨oc51, od51, .func (PySem.W.fnOf "_law_words" "_law_words" (defArgs s_words) (defBody s_words) (defScope s_words) .none kV51 dc51 pm51 an51 cd51 ct51), sl51⟩)
    (c51 : PySem.W.codeIn K cd51 "_law_words" = true)
    (k51 : PySem.W.keepIn K (.ref f51) = true)
    {f52 : Addr} {od52 an52 : Option Addr} {sl52 : Array (Option Value)} {oc52 kV52 dc52 pm52 cd52 ct52 : Value}
    (a52 : PySem.W.nsIn K mainGlobals "_law_stub" = some (some (.ref f52)))
    (l52 : K.lookup f52 = some ⟨oc52, od52, .func (PySem.W.fnOf "_law_stub" "_law_stub" (defArgs s_law_stub) (defBody s_law_stub) (defScope s_law_stub) .none kV52 dc52 pm52 an52 cd52 ct52), sl52⟩)
    (c52 : PySem.W.codeIn K cd52 "_law_stub" = true)
    (k52 : PySem.W.keepIn K (.ref f52) = true)
    {f53 : Addr} {od53 an53 : Option Addr} {sl53 : Array (Option Value)} {oc53 kV53 dc53 pm53 cd53 ct53 : Value}
    (a53 : PySem.W.nsIn K mainGlobals "_law_same" = some (some (.ref f53)))
    (l53 : K.lookup f53 = some ⟨oc53, od53, .func (PySem.W.fnOf "_law_same" "_law_same" (defArgs s_same) (defBody s_same) (defScope s_same) .none kV53 dc53 pm53 an53 cd53 ct53), sl53⟩)
    (c53 : PySem.W.codeIn K cd53 "_law_same" = true)
    (k53 : PySem.W.keepIn K (.ref f53) = true)
    {f54 : Addr} {od54 an54 : Option Addr} {sl54 : Array (Option Value)} {oc54 kV54 dc54 pm54 cd54 ct54 : Value}
    (a54 : PySem.W.nsIn K mainGlobals "_law_is" = some (some (.ref f54)))
    (l54 : K.lookup f54 = some ⟨oc54, od54, .func (PySem.W.fnOf "_law_is" "_law_is" (defArgs s_is) (defBody s_is) (defScope s_is) .none kV54 dc54 pm54 an54 cd54 ct54), sl54⟩)
    (c54 : PySem.W.codeIn K cd54 "_law_is" = true)
    (k54 : PySem.W.keepIn K (.ref f54) = true)
    {f55 : Addr} {od55 an55 : Option Addr} {sl55 : Array (Option Value)} {oc55 kV55 dc55 pm55 cd55 ct55 : Value}
    (a55 : PySem.W.nsIn K mainGlobals "_law_turned" = some (some (.ref f55)))
    (l55 : K.lookup f55 = some ⟨oc55, od55, .func (PySem.W.fnOf "_law_turned" "_law_turned" (defArgs s_turned) (defBody s_turned) (defScope s_turned) .none kV55 dc55 pm55 an55 cd55 ct55), sl55⟩)
    (c55 : PySem.W.codeIn K cd55 "_law_turned" = true)
    (k55 : PySem.W.keepIn K (.ref f55) = true)
    {f56 : Addr} {od56 an56 : Option Addr} {sl56 : Array (Option Value)} {oc56 kV56 dc56 pm56 cd56 ct56 : Value}
    (a56 : PySem.W.nsIn K mainGlobals "_law_child" = some (some (.ref f56)))
    (l56 : K.lookup f56 = some ⟨oc56, od56, .func (PySem.W.fnOf "_law_child" "_law_child" (defArgs s_child) (defBody s_child) (defScope s_child) .none kV56 dc56 pm56 an56 cd56 ct56), sl56⟩)
    (c56 : PySem.W.codeIn K cd56 "_law_child" = true)
    (k56 : PySem.W.keepIn K (.ref f56) = true)
    {f57 : Addr} {od57 an57 : Option Addr} {sl57 : Array (Option Value)} {oc57 kV57 dc57 pm57 cd57 ct57 : Value}
    (a57 : PySem.W.nsIn K mainGlobals "_law_parent" = some (some (.ref f57)))
    (l57 : K.lookup f57 = some ⟨oc57, od57, .func (PySem.W.fnOf "_law_parent" "_law_parent" (defArgs s_parent) (defBody s_parent) (defScope s_parent) .none kV57 dc57 pm57 an57 cd57 ct57), sl57⟩)
    (c57 : PySem.W.codeIn K cd57 "_law_parent" = true)
    (k57 : PySem.W.keepIn K (.ref f57) = true)
    {f58 : Addr} {od58 an58 : Option Addr} {sl58 : Array (Option Value)} {oc58 kV58 dc58 pm58 cd58 ct58 : Value}
    (a58 : PySem.W.nsIn K mainGlobals "_law_got" = some (some (.ref f58)))
    (l58 : K.lookup f58 = some ⟨oc58, od58, .func (PySem.W.fnOf "_law_got" "_law_got" (defArgs s_got) (defBody s_got) (defScope s_got) .none kV58 dc58 pm58 an58 cd58 ct58), sl58⟩)
    (c58 : PySem.W.codeIn K cd58 "_law_got" = true)
    (k58 : PySem.W.keepIn K (.ref f58) = true)
    {f59 : Addr} {od59 an59 : Option Addr} {sl59 : Array (Option Value)} {oc59 kV59 dc59 pm59 cd59 ct59 : Value}
    (a59 : PySem.W.nsIn K mainGlobals "law" = some (some (.ref f59)))
    (l59 : K.lookup f59 = some ⟨oc59, od59, .func (PySem.W.fnOf "law" "law" (defArgs s_law) (defBody s_law) (defScope s_law) .none kV59 dc59 pm59 an59 cd59 ct59), sl59⟩)
    (c59 : PySem.W.codeIn K cd59 "law" = true)
    (k59 : PySem.W.keepIn K (.ref f59) = true)
    (z0 : PySem.W.nsIn K mainGlobals "abs" = some none)
    (z1 : PySem.W.nsIn K mainGlobals "all" = some none)
    (z2 : PySem.W.nsIn K mainGlobals "bool" = some none)
    (z3 : PySem.W.nsIn K mainGlobals "enumerate" = some none)
    (z4 : PySem.W.nsIn K mainGlobals "int" = some none)
    (z5 : PySem.W.nsIn K mainGlobals "isinstance" = some none)
    (z6 : PySem.W.nsIn K mainGlobals "len" = some none)
    (z7 : PySem.W.nsIn K mainGlobals "list" = some none)
    (z8 : PySem.W.nsIn K mainGlobals "range" = some none)
    (z9 : PySem.W.nsIn K mainGlobals "str" = some none)
    (z10 : PySem.W.nsIn K mainGlobals "tuple" = some none)
    {w0 : Value}
    (y0 : PySem.W.nsIn K mainGlobals "LETTERS_orders" = some (some w0))
    (x0 : ∃ t, w0 = .str "abcdefghijklmnopqrstuvwxyz" t)
    {w1 : Value}
    (y1 : PySem.W.nsIn K mainGlobals "MOST_LEVELS_forms" = some (some w1))
    (x1 : ∃ t, w1 = .int 5 t)
    {w2 : Value}
    (y2 : PySem.W.nsIn K mainGlobals "MOST_ITEMS" = some (some w2))
    (x2 : ∃ t, w2 = .int 5 t)
    {w3 : Value}
    (y3 : PySem.W.nsIn K mainGlobals "MOST_SHAPES" = some (some w3))
    (x3 : ∃ t, w3 = .int 16 t)
    {w4 : Value}
    (y4 : PySem.W.nsIn K mainGlobals "MOST_LEVELS_components" = some (some w4))
    (x4 : ∃ t, w4 = .int 5 t)
    {w5 : Value}
    (y5 : PySem.W.nsIn K mainGlobals "LETTERS_surroundings" = some (some w5))
    (x5 : ∃ t, w5 = .str "abcdefghijklmnopqrstuvwxyz" t)
    {D0 : Addr} {de0 : Array DictEntry} {dn0 : Nat}
    (da0 : PySem.W.nsIn K mainGlobals "COUNTS" = some (some (.ref D0)))
    (dl0 : K.lookup D0 = some ⟨.type "dict", none, .dict de0 dn0, #[]⟩)
    (dk0 : PySem.W.KeysLit W.params de0.toList)
    (dw0 : (D0 == sysModules) = false)
    {dt0_0 : Tok}
    (dv0_0 : PySem.W.nsIn K D0 "is" = some (some (.int 2 dt0_0)))
    {dt0_1 : Tok}
    (dv0_1 : PySem.W.nsIn K D0 "get" = some (some (.int 2 dt0_1)))
    {dt0_2 : Tok}
    (dv0_2 : PySem.W.nsIn K D0 "sum" = some (some (.int 3 dt0_2)))
    {dt0_3 : Tok}
    (dv0_3 : PySem.W.nsIn K D0 "same" = some (some (.int 3 dt0_3)))
    {dt0_4 : Tok}
    (dv0_4 : PySem.W.nsIn K D0 "pick" = some (some (.int 4 dt0_4)))
    {U0 : Addr} {un0 : Nat} {us0 : Array (Option Value)} {ut0_0 : Tok} {ut0_1 : Tok} {ut0_2 : Tok} {ut0_3 : Tok} {ut0_4 : Tok}
    (ua0 : PySem.W.nsIn K mainGlobals "FENCES" = some (some (.ref U0)))
    (ul0 : K.lookup U0 = some ⟨.type "tuple", none, .seq #[.str "any" ut0_0, .str "own" ut0_1, .str "same" ut0_2, .str "both" ut0_3, .str "last" ut0_4] un0, us0⟩)
    {U1 : Addr} {un1 : Nat} {us1 : Array (Option Value)} {ut1_0 : Tok} {ut1_1 : Tok} {ut1_2 : Tok}
    (ua1 : PySem.W.nsIn K mainGlobals "PRESSES" = some (some (.ref U1)))
    (ul1 : K.lookup U1 = some ⟨.type "tuple", none, .seq #[.str "lost" ut1_0, .str "kept" ut1_1, .str "takes" ut1_2] un1, us1⟩)
    (cg0 : PySem.W.plainGet K C0 Str.empty = true)
    (ch0 : PySem.W.hasDictIn K C0 = true)
    (co0 : PySem.W.plainOver K C0 = true)
    (cs0 : PySem.W.findIn K (.ref C0) "__setattr__" = some (some (.builtin "object.__setattr__")))
    (cf0_0 : PySem.W.findIn K (.ref C0) "name" = some none)
    (cf0_1 : PySem.W.findIn K (.ref C0) "shape" = some none)
    (cf0_2 : PySem.W.findIn K (.ref C0) "takes" = some none)
    (cf0_3 : PySem.W.findIn K (.ref C0) "hears" = some none)
    (cf0_4 : PySem.W.findIn K (.ref C0) "cells" = some none)
    (cf0_5 : PySem.W.findIn K (.ref C0) "asks" = some none)
    (cf0_6 : PySem.W.findIn K (.ref C0) "gives" = some none)
    (cf0_7 : PySem.W.findIn K (.ref C0) "effects" = some none)
    (cf0_8 : PySem.W.findIn K (.ref C0) "deeds" = some none)
    (cf0_9 : PySem.W.findIn K (.ref C0) "looks" = some none)
    (cf0_10 : PySem.W.findIn K (.ref C0) "island" = some none)
    (cf0_11 : PySem.W.findIn K (.ref C0) "all_names" = some none)
    (cf0_12 : PySem.W.findIn K (.ref C0) "shapes" = some none)
    (cf0_13 : PySem.W.findIn K (.ref C0) "inner" = some none)
    (cf0_14 : PySem.W.findIn K (.ref C0) "deeds_by" = some none)
    (cm0 : PySem.W.makesIn K C0 = true)
    (ck0 : PySem.W.keepIn K (.ref C0) = true)
    (ct0_a : PySem.W.findIn K (.ref C0) "__class__" = some (some (.builtin "object.__class__")))
    (ct0_b : PySem.W.specialIn K (.builtin "object.__class__") "__get__" = some (some (.builtin "getset_descriptor.__get__")))
    (ct0_c : PySem.W.takesIn K (.builtin "object.__class__") = some true)
    (ct0_d : PySem.W.mroIn K C0 (.type "object") = some true)
    {file : Str}
    {E0 E1 E2 : Addr}
    (xa0 : PySem.W.nsIn K mainGlobals "BadForm" = some (some (.ref E0)))
    (xa1 : PySem.W.nsIn K mainGlobals "BadRow" = some (some (.ref E1)))
    (xa2 : PySem.W.nsIn K mainGlobals "BadComponent" = some (some (.ref E2)))
    {R0 : Addr}
    (ra0 : PySem.W.nsIn K mainGlobals "ScreenError" = some (some (.ref R0)))
    (rb0 : PySem.W.isClsIn K R0 = true)
    (rc0 : PySem.W.typeIn K (.ref R0) = some (.type "type"))
    {J0 : Addr}
    {xnm0 xq0 : Str} {xN0 : Addr} {xbs0 xbm0 xsub0 : List Value} {xsn0 : List Str} {xab0 : Bool} {xcol0 : Option Bool} {xdd0 : Option Addr} {xm00 xm10 xm20 xm30 xm50 : Option Value}
    (xL0 : K.lookup E0 = some (excClassObj xnm0 xq0 E0 xN0 xbs0 xbm0 true xsn0 xsub0 xab0 xcol0 xdd0 xm00 xm10 xm20 xm30 xm50 "ValueError.__new__"))
    (xr0 : PySem.HandSPX.refsVE xbm0 = true)
    (xs0 : PySem.W.findIn K (.ref E0) "__setattr__" = some (some (.builtin "object.__setattr__")))
    (xg0 : PySem.W.findIn K (.ref E0) "__getattribute__" = some (some (.builtin "BaseException.__getattribute__")))
    (xh0 : PySem.W.findIn K (.ref E0) "__getattr__" = some none)
    (xf0 : PySem.W.findIn K (.ref E0) "part" = some none)
    (xi0 : PySem.W.findIn K (.ref E0) "__init__" = some (some (.ref J0)))
    (xt0 : PySem.W.typeIn K (.ref J0) = some (.type "function"))
    {xoc0 xkV0 xdc0 xpm0 xct0 xccl0 xcl0 : Value} {xod0 xan0 xcdd0 xcld0 : Option Addr} {xsl0 xccs0 xcsl0 : Array (Option Value)} {cda0 cc0 : Addr} {xvs0 : Array Value} {xtf0 : Tok}
    (xl0 : K.lookup J0 = some ⟨xoc0, xod0, .func (PySem.W.ksFn "__init__" "BadForm.__init__" (defArgs s_BadForm_init) (defBody s_BadForm_init) (defScope s_BadForm_init) .none xkV0 xdc0 xpm0 xan0 (.ref cda0) xct0 cc0), xsl0⟩)
    (xd0 : PySem.W.codeIn K (.ref cda0) "BadForm.__init__" = true)
    (xe0 : K.lookup cda0 = some ⟨xccl0, xcdd0, .fields xvs0, xccs0⟩)
    (xv0 : xvs0[2]? = some (.str file xtf0))
    (xc0 : K.lookup cc0 = some ⟨xcl0, xcld0, .cell (some (.ref E0)), xcsl0⟩)
    (xk0 : PySem.W.keepIn K (.ref E0) = true)
    (xb0 : PySem.W.subIn K (.ref E0) (.type "BaseException") = some true)
    (xy0 : PySem.W.typeIn K (.ref E0) = some (.type "type"))
    (xj0 : PySem.W.hasDictIn K E0 = true)
    (xp0 : PySem.W.ks_superIn K E0 E0 "__init__" = some (some (.builtin "ValueError.__init__")))
    (xw0 : PySem.W.subIn K (.ref E0) (.type "ValueError") = some true)
    (xz0 : PySem.W.mroIn K E0 (.ref E0) = some true)
    (xo0 : PySem.W.nsIn K cStatics "thirdparty.any" = some none)
    (xu0 : PySem.W.nsIn K mainGlobals "super" = some none)
    (xca0 : PySem.W.findIn K (.ref E0) "__class__" = some (some (.builtin "object.__class__")))
    (xcb0 : PySem.W.specialIn K (.builtin "object.__class__") "__get__" = some (some (.builtin "getset_descriptor.__get__")))
    (xcc0 : PySem.W.takesIn K (.builtin "object.__class__") = some true)
    (xcd0 : PySem.W.mroIn K E0 (.type "object") = some true)
    (xsc0 : PySem.W.isClsIn K E0 = true)
    (xss0 : PySem.W.subIn K (.ref E0) (.ref E0) = some true)
    {J1 : Addr}
    {xnm1 xq1 : Str} {xN1 : Addr} {xbs1 xbm1 xsub1 : List Value} {xsn1 : List Str} {xab1 : Bool} {xcol1 : Option Bool} {xdd1 : Option Addr} {xm01 xm11 xm21 xm31 xm51 : Option Value}
    (xL1 : K.lookup E1 = some (excClassObj xnm1 xq1 E1 xN1 xbs1 xbm1 true xsn1 xsub1 xab1 xcol1 xdd1 xm01 xm11 xm21 xm31 xm51 "ValueError.__new__"))
    (xr1 : PySem.HandSPX.refsVE xbm1 = true)
    (xs1 : PySem.W.findIn K (.ref E1) "__setattr__" = some (some (.builtin "object.__setattr__")))
    (xg1 : PySem.W.findIn K (.ref E1) "__getattribute__" = some (some (.builtin "BaseException.__getattribute__")))
    (xh1 : PySem.W.findIn K (.ref E1) "__getattr__" = some none)
    (xf1 : PySem.W.findIn K (.ref E1) "row" = some none)
    (xi1 : PySem.W.findIn K (.ref E1) "__init__" = some (some (.ref J1)))
    (xt1 : PySem.W.typeIn K (.ref J1) = some (.type "function"))
    {xoc1 xkV1 xdc1 xpm1 xct1 xccl1 xcl1 : Value} {xod1 xan1 xcdd1 xcld1 : Option Addr} {xsl1 xccs1 xcsl1 : Array (Option Value)} {cda1 cc1 : Addr} {xvs1 : Array Value} {xtf1 : Tok}
    (xl1 : K.lookup J1 = some ⟨xoc1, xod1, .func (PySem.W.ksFn "__init__" "BadRow.__init__" (defArgs s_BadRow_init) (defBody s_BadRow_init) (defScope s_BadRow_init) .none xkV1 xdc1 xpm1 xan1 (.ref cda1) xct1 cc1), xsl1⟩)
    (xd1 : PySem.W.codeIn K (.ref cda1) "BadRow.__init__" = true)
    (xe1 : K.lookup cda1 = some ⟨xccl1, xcdd1, .fields xvs1, xccs1⟩)
    (xv1 : xvs1[2]? = some (.str file xtf1))
    (xc1 : K.lookup cc1 = some ⟨xcl1, xcld1, .cell (some (.ref E1)), xcsl1⟩)
    (xk1 : PySem.W.keepIn K (.ref E1) = true)
    (xb1 : PySem.W.subIn K (.ref E1) (.type "BaseException") = some true)
    (xy1 : PySem.W.typeIn K (.ref E1) = some (.type "type"))
    (xj1 : PySem.W.hasDictIn K E1 = true)
    (xp1 : PySem.W.ks_superIn K E1 E1 "__init__" = some (some (.builtin "ValueError.__init__")))
    (xw1 : PySem.W.subIn K (.ref E1) (.type "ValueError") = some true)
    (xz1 : PySem.W.mroIn K E1 (.ref E1) = some true)
    (xo1 : PySem.W.nsIn K cStatics "thirdparty.any" = some none)
    (xu1 : PySem.W.nsIn K mainGlobals "super" = some none)
    (xca1 : PySem.W.findIn K (.ref E1) "__class__" = some (some (.builtin "object.__class__")))
    (xcb1 : PySem.W.specialIn K (.builtin "object.__class__") "__get__" = some (some (.builtin "getset_descriptor.__get__")))
    (xcc1 : PySem.W.takesIn K (.builtin "object.__class__") = some true)
    (xcd1 : PySem.W.mroIn K E1 (.type "object") = some true)
    (xsc1 : PySem.W.isClsIn K E1 = true)
    (xss1 : PySem.W.subIn K (.ref E1) (.ref E1) = some true)
    {J2 : Addr}
    {xnm2 xq2 : Str} {xN2 : Addr} {xbs2 xbm2 xsub2 : List Value} {xsn2 : List Str} {xab2 : Bool} {xcol2 : Option Bool} {xdd2 : Option Addr} {xm02 xm12 xm22 xm32 xm52 : Option Value}
    (xL2 : K.lookup E2 = some (excClassObj xnm2 xq2 E2 xN2 xbs2 xbm2 true xsn2 xsub2 xab2 xcol2 xdd2 xm02 xm12 xm22 xm32 xm52 "ValueError.__new__"))
    (xr2 : PySem.HandSPX.refsVE xbm2 = true)
    (xs2 : PySem.W.findIn K (.ref E2) "__setattr__" = some (some (.builtin "object.__setattr__")))
    (xg2 : PySem.W.findIn K (.ref E2) "__getattribute__" = some (some (.builtin "BaseException.__getattribute__")))
    (xh2 : PySem.W.findIn K (.ref E2) "__getattr__" = some none)
    (xf2 : PySem.W.findIn K (.ref E2) "part" = some none)
    (xi2 : PySem.W.findIn K (.ref E2) "__init__" = some (some (.ref J2)))
    (xt2 : PySem.W.typeIn K (.ref J2) = some (.type "function"))
    {xoc2 xkV2 xdc2 xpm2 xct2 xccl2 xcl2 : Value} {xod2 xan2 xcdd2 xcld2 : Option Addr} {xsl2 xccs2 xcsl2 : Array (Option Value)} {cda2 cc2 : Addr} {xvs2 : Array Value} {xtf2 : Tok}
    (xl2 : K.lookup J2 = some ⟨xoc2, xod2, .func (PySem.W.ksFn "__init__" "BadComponent.__init__" (defArgs s_BadComponent_init) (defBody s_BadComponent_init) (defScope s_BadComponent_init) .none xkV2 xdc2 xpm2 xan2 (.ref cda2) xct2 cc2), xsl2⟩)
    (xd2 : PySem.W.codeIn K (.ref cda2) "BadComponent.__init__" = true)
    (xe2 : K.lookup cda2 = some ⟨xccl2, xcdd2, .fields xvs2, xccs2⟩)
    (xv2 : xvs2[2]? = some (.str file xtf2))
    (xc2 : K.lookup cc2 = some ⟨xcl2, xcld2, .cell (some (.ref E2)), xcsl2⟩)
    (xk2 : PySem.W.keepIn K (.ref E2) = true)
    (xb2 : PySem.W.subIn K (.ref E2) (.type "BaseException") = some true)
    (xy2 : PySem.W.typeIn K (.ref E2) = some (.type "type"))
    (xj2 : PySem.W.hasDictIn K E2 = true)
    (xp2 : PySem.W.ks_superIn K E2 E2 "__init__" = some (some (.builtin "ValueError.__init__")))
    (xw2 : PySem.W.subIn K (.ref E2) (.type "ValueError") = some true)
    (xz2 : PySem.W.mroIn K E2 (.ref E2) = some true)
    (xo2 : PySem.W.nsIn K cStatics "thirdparty.any" = some none)
    (xu2 : PySem.W.nsIn K mainGlobals "super" = some none)
    (xca2 : PySem.W.findIn K (.ref E2) "__class__" = some (some (.builtin "object.__class__")))
    (xcb2 : PySem.W.specialIn K (.builtin "object.__class__") "__get__" = some (some (.builtin "getset_descriptor.__get__")))
    (xcc2 : PySem.W.takesIn K (.builtin "object.__class__") = some true)
    (xcd2 : PySem.W.mroIn K E2 (.type "object") = some true)
    (xsc2 : PySem.W.isClsIn K E2 = true)
    (xss2 : PySem.W.subIn K (.ref E2) (.ref E2) = some true)
    : ∃ T : Top K mg W, T.a_law = f59 ∧ T.x_file = file ∧ ∀ (s : Shared) (v : Value), BindsTo s T.d_law ⟨[v], []⟩ [("_law_script", v)] := by
  have F0 := fun_mk (st := s_is_name) l0 c0 k0
  have F1 := fun_mk (st := s_is_number) l1 c1 k1
  have F2 := fun_mk (st := s_is_part) l2 c2 k2
  have F3 := fun_mk (st := s_check_form) l3 c3 k3
  have F4 := fun_mk (st := s_names_of) l4 c4 k4
  have F5 := fun_mk (st := s_check_row) l5 c5 k5
  have F6 := fun_mk (st := s_text_shape) l6 c6 k6
  have F7 := fun_mk (st := s_button_shape) l7 c7 k7
  have F8 := fun_mk (st := s_col_shape) l8 c8 k8
  have F9 := fun_mk (st := s_part_shapes) l9 c9 k9
  have F10 := fun_mk (st := s_numbered) l10 c10 k10
  have F11 := fun_mk (st := s_good_form) l11 c11 k11
  have F12 := fun_mk (st := s_good_rows) l12 c12 k12
  have F13 := fun_mk (st := s_fresh) l13 c13 k13
  have F14 := fun_mk (st := s_different) l14 c14 k14
  have F15 := fun_mk (st := s_good_told) l15 c15 k15
  have F16 := fun_mk (st := s_good_menu) l16 c16 k16
  have F17 := fun_mk (st := s_good_shape) l17 c17 k17
  have F18 := fun_mk (st := s_good_children) l18 c18 k18
  have F19 := fun_mk (st := s_part_numbers) l19 c19 k19
  have F20 : FunD K "__init__" "Component.__init__" (defArgs s_Component_init) (defBody s_Component_init) (defScope s_Component_init) [] [("takes", .ref ke20_0), ("hears", .ref ke20_1), ("cells", .ref ke20_2), ("asks", .ref ke20_3), ("gives", .ref ke20_4), ("effects", .ref ke20_5), ("deeds", .ref ke20_6), ("looks", .non), ("island", .non)] f20 _ := ⟨⟨_, _, _, _, _, _, _, _, _, _, rfl, l20, c20, .inl ⟨rfl, rfl⟩, .inr ⟨kD20, rfl, List.forall_mem_cons.mpr ⟨⟨_, kd20_0, rfl⟩, List.forall_mem_cons.mpr ⟨⟨_, kd20_1, rfl⟩, List.forall_mem_cons.mpr ⟨⟨_, kd20_2, rfl⟩, List.forall_mem_cons.mpr ⟨⟨_, kd20_3, rfl⟩, List.forall_mem_cons.mpr ⟨⟨_, kd20_4, rfl⟩, List.forall_mem_cons.mpr ⟨⟨_, kd20_5, rfl⟩, List.forall_mem_cons.mpr ⟨⟨_, kd20_6, rfl⟩, List.forall_mem_cons.mpr ⟨⟨_, kd20_7, rfl⟩, List.forall_mem_cons.mpr ⟨⟨_, kd20_8, rfl⟩, List.forall_mem_nil _⟩⟩⟩⟩⟩⟩⟩⟩⟩⟩⟩, k20⟩
  have F21 := fun_mk (st := s_Component_check_told) l21 c21 k21
  have F22 := fun_mk (st := s_Component_check_works) l22 c22 k22
  have F23 := fun_mk (st := s_Component_within) l23 c23 k23
  have F24 := fun_mk (st := s_Component_good_island) l24 c24 k24
  have F25 := fun_mk (st := s_Component_good_deed) l25 c25 k25
  have F26 := fun_mk (st := s_spare_names) l26 c26 k26
  have F27 := fun_mk (st := s_words_of) l27 c27 k27
  have F28 := fun_mk (st := s_one_more) l28 c28 k28
  have F29 := fun_mk (st := s_stub) l29 c29 k29
  have F30 := fun_mk (st := s_mixed) l30 c30 k30
  have F31 := fun_mk (st := s_bag) l31 c31 k31
  have F32 := fun_mk (st := s_pick) l32 c32 k32
  have F33 := fun_mk (st := s_choice) l33 c33 k33
  have F34 := fun_mk (st := s_mingled) l34 c34 k34
  have F35 := fun_mk (st := s_sorted) l35 c35 k35
  have F36 := fun_mk (st := s_number) l36 c36 k36
  have F37 := fun_mk (st := s_new_name) l37 c37 k37
  have F38 := fun_mk (st := s_form) l38 c38 k38
  have F39 := fun_mk (st := s_parts) l39 c39 k39
  have F40 := fun_mk (st := s_law_numbered) l40 c40 k40
  have F41 := fun_mk (st := s_component_of) l41 c41 k41
  have F42 := fun_mk (st := s_blank) l42 c42 k42
  have F43 := fun_mk (st := s_full_looks) l43 c43 k43
  have F44 := fun_mk (st := s_some) l44 c44 k44
  have F45 := fun_mk (st := s_row) l45 c45 k45
  have F46 := fun_mk (st := s_menu) l46 c46 k46
  have F47 := fun_mk (st := s_key) l47 c47 k47
  have F48 := fun_mk (st := s_spares) l48 c48 k48
  have F49 := fun_mk (st := s_near) l49 c49 k49
  have F50 := fun_mk (st := s_told_rows) l50 c50 k50
  have F51 := fun_mk (st := s_words) l51 c51 k51
  have F52 := fun_mk (st := s_law_stub) l52 c52 k52
  have F53 := fun_mk (st := s_same) l53 c53 k53
  have F54 := fun_mk (st := s_is) l54 c54 k54
  have F55 := fun_mk (st := s_turned) l55 c55 k55
  have F56 := fun_mk (st := s_child) l56 c56 k56
  have F57 := fun_mk (st := s_parent) l57 c57 k57
  have F58 := fun_mk (st := s_got) l58 c58 k58
  have F59 := fun_mk (st := s_law) l59 c59 k59
  exact ⟨⟨PySem.W.mg_none_of X G z0,
    PySem.W.mg_none_of X G z1,
    PySem.W.mg_none_of X G z2,
    PySem.W.mg_none_of X G z3,
    PySem.W.mg_none_of X G z4,
    PySem.W.mg_none_of X G z5,
    PySem.W.mg_none_of X G z6,
    PySem.W.mg_none_of X G z7,
    PySem.W.mg_none_of X G z8,
    PySem.W.mg_none_of X G z9,
    PySem.W.mg_none_of X G z10,
    (by obtain ⟨t, e⟩ := x0; exact ⟨t, e ▸ PySem.W.mg_of X G y0⟩),
    (by obtain ⟨t, e⟩ := x1; exact ⟨t, e ▸ PySem.W.mg_of X G y1⟩),
    (by obtain ⟨t, e⟩ := x2; exact ⟨t, e ▸ PySem.W.mg_of X G y2⟩),
    (by obtain ⟨t, e⟩ := x3; exact ⟨t, e ▸ PySem.W.mg_of X G y3⟩),
    (by obtain ⟨t, e⟩ := x4; exact ⟨t, e ▸ PySem.W.mg_of X G y4⟩),
    (by obtain ⟨t, e⟩ := x5; exact ⟨t, e ▸ PySem.W.mg_of X G y5⟩),
    f0,
    _,
    F0,
    F0.binds (ps := ["thing"]) (fun _ _ _ _ _ _ us hl => match us, hl with | [_], _ => rfl),
    PySem.W.mg_of X G a0,
    f1,
    _,
    F1,
    F1.binds (ps := ["thing", "low", "high"]) (fun _ _ _ _ _ _ us hl => match us, hl with | [_, _, _], _ => rfl),
    PySem.W.mg_of X G a1,
    f2,
    _,
    F2,
    F2.binds (ps := ["part"]) (fun _ _ _ _ _ _ us hl => match us, hl with | [_], _ => rfl),
    PySem.W.mg_of X G a2,
    f3,
    _,
    F3,
    F3.binds (ps := ["parts"]) (fun _ _ _ _ _ _ us hl => match us, hl with | [_], _ => rfl),
    PySem.W.mg_of X G a3,
    f4,
    _,
    F4,
    F4.binds (ps := ["parts"]) (fun _ _ _ _ _ _ us hl => match us, hl with | [_], _ => rfl),
    PySem.W.mg_of X G a4,
    f5,
    _,
    F5,
    F5.binds (ps := ["row"]) (fun _ _ _ _ _ _ us hl => match us, hl with | [_], _ => rfl),
    PySem.W.mg_of X G a5,
    f6,
    _,
    F6,
    F6.binds (ps := ["form"]) (fun _ _ _ _ _ _ us hl => match us, hl with | [_], _ => rfl),
    PySem.W.mg_of X G a6,
    f7,
    _,
    F7,
    F7.binds (ps := ["word"]) (fun _ _ _ _ _ _ us hl => match us, hl with | [_], _ => rfl),
    PySem.W.mg_of X G a7,
    f8,
    _,
    F8,
    (by exact bindS0 (B := fun us => bindArgs _ ⟨us, []⟩) rfl (fun _ _  => rfl)),
    PySem.W.mg_of X G a8,
    f9,
    _,
    F9,
    F9.binds (ps := ["shape"]) (fun _ _ _ _ _ _ us hl => match us, hl with | [_], _ => rfl),
    PySem.W.mg_of X G a9,
    f10,
    _,
    F10,
    F10.binds (ps := ["shape"]) (fun _ _ _ _ _ _ us hl => match us, hl with | [_], _ => rfl),
    PySem.W.mg_of X G a10,
    f11,
    _,
    F11,
    F11.binds (ps := ["parts", "names"]) (fun _ _ _ _ _ _ us hl => match us, hl with | [_, _], _ => rfl),
    PySem.W.mg_of X G a11,
    f12,
    _,
    F12,
    F12.binds (ps := ["rows", "most", "size"]) (fun _ _ _ _ _ _ us hl => match us, hl with | [_, _, _], _ => rfl),
    PySem.W.mg_of X G a12,
    f13,
    _,
    F13,
    F13.binds (ps := ["names", "earlier"]) (fun _ _ _ _ _ _ us hl => match us, hl with | [_, _], _ => rfl),
    PySem.W.mg_of X G a13,
    f14,
    _,
    F14,
    F14.binds (ps := ["words"]) (fun _ _ _ _ _ _ us hl => match us, hl with | [_], _ => rfl),
    PySem.W.mg_of X G a14,
    f15,
    _,
    F15,
    F15.binds (ps := ["rows", "most", "earlier"]) (fun _ _ _ _ _ _ us hl => match us, hl with | [_, _, _], _ => rfl),
    PySem.W.mg_of X G a15,
    f16,
    _,
    F16,
    F16.binds (ps := ["menu"]) (fun _ _ _ _ _ _ us hl => match us, hl with | [_], _ => rfl),
    PySem.W.mg_of X G a16,
    f17,
    _,
    F17,
    F17.binds (ps := ["shape", "level", "names"]) (fun _ _ _ _ _ _ us hl => match us, hl with | [_, _, _], _ => rfl),
    PySem.W.mg_of X G a17,
    f18,
    _,
    F18,
    F18.binds (ps := ["shape", "names"]) (fun _ _ _ _ _ _ us hl => match us, hl with | [_, _], _ => rfl),
    PySem.W.mg_of X G a18,
    f19,
    _,
    F19,
    F19.binds (ps := ["shape", "number"]) (fun _ _ _ _ _ _ us hl => match us, hl with | [_, _], _ => rfl),
    PySem.W.mg_of X G a19,
    f20,
    _,
    ke20_0,
    fun H => .inr ⟨_, _, _, kl20_0, rfl, rfl, XL.sz, .nil⟩,
    ke20_1,
    fun H => .inr ⟨_, _, _, kl20_1, rfl, rfl, XL.sz, .nil⟩,
    ke20_2,
    fun H => .inr ⟨_, _, _, kl20_2, rfl, rfl, XL.sz, .nil⟩,
    ke20_3,
    fun H => .inr ⟨_, _, _, kl20_3, rfl, rfl, XL.sz, .nil⟩,
    ke20_4,
    fun H => .inr ⟨_, _, _, kl20_4, rfl, rfl, XL.sz, .nil⟩,
    ke20_5,
    fun H => .inr ⟨_, _, _, kl20_5, rfl, rfl, XL.sz, .nil⟩,
    ke20_6,
    fun H => .inr ⟨_, _, _, kl20_6, rfl, rfl, XL.sz, .nil⟩,
    F20,
    F20.kbinds0 (ps := ["self", "name", "shape", "takes", "hears", "cells", "asks", "gives", "effects", "deeds", "looks", "island"]) 3 ["takes", "hears", "cells", "asks", "gives", "effects", "deeds", "looks", "island"] [] (fun us mv ws => us ++ ((((ws).drop 0).take 9))) (by simp) (fun q hq => (show List.Sublist _ _ from .cons _ (.cons _ (.cons _ (.cons _ (.cons _ (.cons _ (.cons _ (.cons _ (.cons _ (.slnil)))))))))).subset hq) (fun r1 r2 r3 => r1.append (((r3.drop 0).take 9))) (fun _ _ _ _ _ _ us mv ws h1 h2 h3 => match us, mv, ws, h1, h2, h3 with | [_, _, _], [], [_, _, _, _, _, _, _, _, _], _, _, _ => rfl),
    F20.kbinds0 (ps := ["self", "name", "shape", "takes", "hears", "cells", "asks", "gives", "effects", "deeds", "looks", "island"]) 3 ["takes", "hears", "cells", "deeds"] [("asks", .ref ke20_3), ("gives", .ref ke20_4), ("effects", .ref ke20_5), ("looks", .non), ("island", .non)] (fun us mv ws => us ++ ((((ws).drop 0).take 3) ++ ((((mv).drop 0).take 3) ++ ((((ws).drop 3).take 1) ++ ((((mv).drop 3).take 2)))))) (by simp) (fun q hq => (show List.Sublist _ _ from .cons _ (.cons _ (.cons _ (.cons₂ _ (.cons₂ _ (.cons₂ _ (.cons _ (.cons₂ _ (.cons₂ _ (.slnil)))))))))).subset hq) (fun r1 r2 r3 => r1.append (((r3.drop 0).take 3).append (((r2.drop 0).take 3).append (((r3.drop 3).take 1).append (((r2.drop 3).take 2)))))) (fun _ _ _ _ _ _ us mv ws h1 h2 h3 => match us, mv, ws, h1, h2, h3 with | [_, _, _], [_, _, _, _, _], [_, _, _, _], _, _, _ => ⟨_, _, _, _, _, _, rfl, rfl, _, _, _, _, _, _, rfl, rfl, _, _, _, _, _, _, rfl, rfl, _, _, _, _, _, _, rfl, rfl, _, _, _, _, _, _, rfl, rfl, rfl⟩),
    f21,
    _,
    F21,
    F21.binds (ps := ["self"]) (fun _ _ _ _ _ _ us hl => match us, hl with | [_], _ => rfl),
    f22,
    _,
    F22,
    F22.binds (ps := ["self"]) (fun _ _ _ _ _ _ us hl => match us, hl with | [_], _ => rfl),
    f23,
    _,
    F23,
    F23.binds (ps := ["told", "names"]) (fun _ _ _ _ _ _ us hl => match us, hl with | [_, _], _ => rfl),
    f24,
    _,
    F24,
    F24.binds (ps := ["island"]) (fun _ _ _ _ _ _ us hl => match us, hl with | [_], _ => rfl),
    f25,
    _,
    F25,
    F25.binds (ps := ["self", "sets", "goes"]) (fun _ _ _ _ _ _ us hl => match us, hl with | [_, _, _], _ => rfl),
    f26,
    _,
    F26,
    F26.binds (ps := ["barred", "count"]) (fun _ _ _ _ _ _ us hl => match us, hl with | [_, _], _ => rfl),
    PySem.W.mg_of X G a26,
    f27,
    _,
    F27,
    F27.binds (ps := ["component"]) (fun _ _ _ _ _ _ us hl => match us, hl with | [_], _ => rfl),
    PySem.W.mg_of X G a27,
    f28,
    _,
    F28,
    F28.binds (ps := ["cell"]) (fun _ _ _ _ _ _ us hl => match us, hl with | [_], _ => rfl),
    PySem.W.mg_of X G a28,
    f29,
    _,
    F29,
    F29.binds (ps := ["component", "child"]) (fun _ _ _ _ _ _ us hl => match us, hl with | [_, _], _ => rfl),
    PySem.W.mg_of X G a29,
    f30,
    _,
    F30,
    F30.binds (ps := ["_law_number_here", "_law_turn"]) (fun _ _ _ _ _ _ us hl => match us, hl with | [_, _], _ => rfl),
    PySem.W.mg_of X G a30,
    f31,
    _,
    F31,
    F31.binds (ps := ["_law_script"]) (fun _ _ _ _ _ _ us hl => match us, hl with | [_], _ => rfl),
    PySem.W.mg_of X G a31,
    f32,
    _,
    F32,
    F32.binds (ps := ["_law_bag_here", "_law_many"]) (fun _ _ _ _ _ _ us hl => match us, hl with | [_, _], _ => rfl),
    PySem.W.mg_of X G a32,
    f33,
    _,
    F33,
    F33.binds (ps := ["_law_bag_here", "_law_things"]) (fun _ _ _ _ _ _ us hl => match us, hl with | [_, _], _ => rfl),
    PySem.W.mg_of X G a33,
    f34,
    _,
    F34,
    F34.binds (ps := ["_law_bag_here", "_law_things"]) (fun _ _ _ _ _ _ us hl => match us, hl with | [_, _], _ => rfl),
    PySem.W.mg_of X G a34,
    f35,
    _,
    F35,
    F35.binds (ps := ["_law_things"]) (fun _ _ _ _ _ _ us hl => match us, hl with | [_], _ => rfl),
    PySem.W.mg_of X G a35,
    f36,
    _,
    F36,
    F36.binds (ps := ["_law_thing"]) (fun _ _ _ _ _ _ us hl => match us, hl with | [_], _ => rfl),
    PySem.W.mg_of X G a36,
    f37,
    _,
    F37,
    F37.binds (ps := ["_law_bag_here", "_law_used"]) (fun _ _ _ _ _ _ us hl => match us, hl with | [_, _], _ => rfl),
    PySem.W.mg_of X G a37,
    f38,
    _,
    F38,
    F38.binds (ps := ["_law_bag_here", "_law_readable", "_law_levels"]) (fun _ _ _ _ _ _ us hl => match us, hl with | [_, _, _], _ => rfl),
    PySem.W.mg_of X G a38,
    f39,
    _,
    F39,
    F39.binds (ps := ["_law_shape"]) (fun _ _ _ _ _ _ us hl => match us, hl with | [_], _ => rfl),
    PySem.W.mg_of X G a39,
    f40,
    _,
    F40,
    F40.binds (ps := ["_law_shape"]) (fun _ _ _ _ _ _ us hl => match us, hl with | [_], _ => rfl),
    PySem.W.mg_of X G a40,
    f41,
    _,
    F41,
    F41.binds (ps := ["_law_plain"]) (fun _ _ _ _ _ _ us hl => match us, hl with | [_], _ => rfl),
    PySem.W.mg_of X G a41,
    f42,
    _,
    F42,
    F42.binds (ps := ["_law_called"]) (fun _ _ _ _ _ _ us hl => match us, hl with | [_], _ => rfl),
    PySem.W.mg_of X G a42,
    f43,
    _,
    F43,
    F43.binds (ps := ["_law_told"]) (fun _ _ _ _ _ _ us hl => match us, hl with | [_], _ => rfl),
    PySem.W.mg_of X G a43,
    f44,
    _,
    F44,
    F44.binds (ps := ["_law_bag_here", "_law_things"]) (fun _ _ _ _ _ _ us hl => match us, hl with | [_, _], _ => rfl),
    PySem.W.mg_of X G a44,
    f45,
    _,
    F45,
    F45.binds (ps := ["_law_bag_here", "_law_most"]) (fun _ _ _ _ _ _ us hl => match us, hl with | [_, _], _ => rfl),
    PySem.W.mg_of X G a45,
    f46,
    _,
    F46,
    F46.binds (ps := ["_law_bag_here", "_law_most"]) (fun _ _ _ _ _ _ us hl => match us, hl with | [_, _], _ => rfl),
    PySem.W.mg_of X G a46,
    f47,
    _,
    F47,
    F47.binds (ps := ["_law_bag_here", "_law_weak"]) (fun _ _ _ _ _ _ us hl => match us, hl with | [_, _], _ => rfl),
    PySem.W.mg_of X G a47,
    f48,
    _,
    F48,
    F48.binds (ps := ["_law_barred"]) (fun _ _ _ _ _ _ us hl => match us, hl with | [_], _ => rfl),
    PySem.W.mg_of X G a48,
    f49,
    _,
    F49,
    F49.binds (ps := ["_law_bag_here", "_law_used"]) (fun _ _ _ _ _ _ us hl => match us, hl with | [_, _], _ => rfl),
    PySem.W.mg_of X G a49,
    f50,
    _,
    F50,
    F50.binds (ps := ["_law_bag_here", "_law_used", "_law_many", "_law_triple"]) (fun _ _ _ _ _ _ us hl => match us, hl with | [_, _, _, _], _ => rfl),
    PySem.W.mg_of X G a50,
    f51,
    _,
    F51,
    F51.binds (ps := ["_law_told"]) (fun _ _ _ _ _ _ us hl => match us, hl with | [_], _ => rfl),
    PySem.W.mg_of X G a51,
    f52,
    _,
    F52,
    F52.binds (ps := ["_law_told", "_law_child_here"]) (fun _ _ _ _ _ _ us hl => match us, hl with | [_, _], _ => rfl),
    PySem.W.mg_of X G a52,
    f53,
    _,
    F53,
    F53.binds (ps := ["_law_first", "_law_second"]) (fun _ _ _ _ _ _ us hl => match us, hl with | [_, _], _ => rfl),
    PySem.W.mg_of X G a53,
    f54,
    _,
    F54,
    F54.binds (ps := ["_law_got_here", "_law_told"]) (fun _ _ _ _ _ _ us hl => match us, hl with | [_, _], _ => rfl),
    PySem.W.mg_of X G a54,
    f55,
    _,
    F55,
    F55.binds (ps := ["_law_bag_here", "_law_words_here", "_law_cell", "_law_readable"]) (fun _ _ _ _ _ _ us hl => match us, hl with | [_, _, _, _], _ => rfl),
    PySem.W.mg_of X G a55,
    f56,
    _,
    F56,
    F56.binds (ps := ["_law_bag_here", "_law_used"]) (fun _ _ _ _ _ _ us hl => match us, hl with | [_, _], _ => rfl),
    PySem.W.mg_of X G a56,
    f57,
    _,
    F57,
    F57.binds (ps := ["_law_bag_here", "_law_used", "_law_children"]) (fun _ _ _ _ _ _ us hl => match us, hl with | [_, _, _], _ => rfl),
    PySem.W.mg_of X G a57,
    f58,
    _,
    F58,
    F58.binds (ps := ["_law_parent_here", "_law_child_here"]) (fun _ _ _ _ _ _ us hl => match us, hl with | [_, _], _ => rfl),
    PySem.W.mg_of X G a58,
    f59,
    _,
    F59,
    F59.binds (ps := ["_law_script"]) (fun _ _ _ _ _ _ us hl => match us, hl with | [_], _ => rfl),
    PySem.W.mg_of X G a59,
    D0,
    de0,
    dn0,
    PySem.W.mg_of X G da0,
    dl0,
    dk0,
    dw0,
    ⟨_, dv0_0⟩,
    ⟨_, dv0_1⟩,
    ⟨_, dv0_2⟩,
    ⟨_, dv0_3⟩,
    ⟨_, dv0_4⟩,
    U0,
    PySem.W.mg_of X G ua0,
    fun H => .inr ⟨_, _, _, ul0, rfl, rfl, XL.sz, .cons ⟨_, rfl⟩ (.cons ⟨_, rfl⟩ (.cons ⟨_, rfl⟩ (.cons ⟨_, rfl⟩ (.cons ⟨_, rfl⟩ (.nil)))))⟩,
    ⟨_, ul0, rfl, rfl⟩,
    U1,
    PySem.W.mg_of X G ua1,
    fun H => .inr ⟨_, _, _, ul1, rfl, rfl, XL.sz, .cons ⟨_, rfl⟩ (.cons ⟨_, rfl⟩ (.cons ⟨_, rfl⟩ (.nil)))⟩,
    ⟨_, ul1, rfl, rfl⟩,
    C0,
    PySem.W.mg_of X G ca0,
    ⟨cg0, ch0, co0, cs0⟩,
    cf0_0,
    cf0_1,
    cf0_2,
    cf0_3,
    cf0_4,
    cf0_5,
    cf0_6,
    cf0_7,
    cf0_8,
    cf0_9,
    cf0_10,
    cf0_11,
    cf0_12,
    cf0_13,
    cf0_14,
    ⟨cm0, a20, i20, ck0⟩,
    ⟨a21, i21, k21⟩,
    ⟨a22, i22, k22⟩,
    ⟨a25, i25, k25⟩,
    ⟨_, a23, pt23, pg23, pk23, ⟨_, pc23⟩, k23⟩,
    ⟨_, a24, pt24, pg24, pk24, ⟨_, pc24⟩, k24⟩,
    ⟨ct0_a, ct0_b, ct0_c, ct0_d, if_pos (beq_self_eq_true _)⟩,
    file,
    R0,
    PySem.W.mg_of X G ra0,
    E0,
    J0,
    PySem.W.mg_of X G xa0,
    fun P pf => { gC := PySem.W.mg_of X G xa0, cls := ⟨_, _, _, _, _, _, _, _, _, _, _, _, _, _, _, xL0, xr0⟩, sa := xs0, ga := xg0, gg := xh0, noN := xf0, iC := xi0, tC := xt0, kC := xk0, exC := xb0, tyC := xy0, hdC := xj0, fn := ⟨_, _, _, _, _, _, _, _, _, _, _, ⟨9, 17, 9, 21⟩, ⟨9, 23, 9, 27⟩, ⟨⟨10, 8, 10, 13⟩, ⟨10, 8, 10, 15⟩, ⟨10, 8, 10, 24⟩, ⟨10, 27, 10, 39⟩, ⟨10, 40, 10, 44⟩, ⟨10, 39, 10, 47⟩, ⟨10, 25, 10, 48⟩, ⟨10, 8, 10, 49⟩, ⟨10, 8, 10, 49⟩, ⟨11, 8, 11, 12⟩, ⟨11, 8, 11, 17⟩, ⟨11, 20, 11, 24⟩, ⟨11, 8, 11, 24⟩, 114, .inl rfl⟩, _, _, _, _, _, _, _, _, _, xl0, xd0, xe0, xv0, pf.1, xc0, ⟨_, fun _ => rfl⟩, fun _ _ => rfl⟩, sup := xp0, subV := xw0, mroS := xz0, opq := xo0, htop := pf.2, hsup := PySem.W.mg_none_of X G xu0, f1 := by decide, f2 := by decide, f3 := by decide, f4 := by decide, ml := by decide +kernel },
    ⟨xg0, xh0, xb0, xj0, xca0, xcb0, xcc0, xcd0⟩,
    ⟨xg0, xh0, xb0, xj0⟩,
    exm_of xb0 xsc0 xy0 xss0,
    E1,
    J1,
    PySem.W.mg_of X G xa1,
    fun P pf => { gC := PySem.W.mg_of X G xa1, cls := ⟨_, _, _, _, _, _, _, _, _, _, _, _, _, _, _, xL1, xr1⟩, sa := xs1, ga := xg1, gg := xh1, noN := xf1, iC := xi1, tC := xt1, kC := xk1, exC := xb1, tyC := xy1, hdC := xj1, fn := ⟨_, _, _, _, _, _, _, _, _, _, _, ⟨14, 17, 14, 21⟩, ⟨14, 23, 14, 26⟩, ⟨⟨15, 8, 15, 13⟩, ⟨15, 8, 15, 15⟩, ⟨15, 8, 15, 24⟩, ⟨15, 27, 15, 38⟩, ⟨15, 39, 15, 42⟩, ⟨15, 38, 15, 45⟩, ⟨15, 25, 15, 46⟩, ⟨15, 8, 15, 47⟩, ⟨15, 8, 15, 47⟩, ⟨16, 8, 16, 12⟩, ⟨16, 8, 16, 16⟩, ⟨16, 19, 16, 22⟩, ⟨16, 8, 16, 22⟩, 114, .inl rfl⟩, _, _, _, _, _, _, _, _, _, xl1, xd1, xe1, xv1, pf.1, xc1, ⟨_, fun _ => rfl⟩, fun _ _ => rfl⟩, sup := xp1, subV := xw1, mroS := xz1, opq := xo1, htop := pf.2, hsup := PySem.W.mg_none_of X G xu1, f1 := by decide, f2 := by decide, f3 := by decide, f4 := by decide, ml := by decide +kernel },
    ⟨xg1, xh1, xb1, xj1, xca1, xcb1, xcc1, xcd1⟩,
    ⟨xg1, xh1, xb1, xj1⟩,
    exm_of xb1 xsc1 xy1 xss1,
    E2,
    J2,
    PySem.W.mg_of X G xa2,
    fun P pf => { gC := PySem.W.mg_of X G xa2, cls := ⟨_, _, _, _, _, _, _, _, _, _, _, _, _, _, _, xL2, xr2⟩, sa := xs2, ga := xg2, gg := xh2, noN := xf2, iC := xi2, tC := xt2, kC := xk2, exC := xb2, tyC := xy2, hdC := xj2, fn := ⟨_, _, _, _, _, _, _, _, _, _, _, ⟨19, 17, 19, 21⟩, ⟨19, 23, 19, 27⟩, ⟨⟨20, 8, 20, 13⟩, ⟨20, 8, 20, 15⟩, ⟨20, 8, 20, 24⟩, ⟨20, 27, 20, 52⟩, ⟨20, 53, 20, 57⟩, ⟨20, 52, 20, 58⟩, ⟨20, 25, 20, 59⟩, ⟨20, 8, 20, 60⟩, ⟨20, 8, 20, 60⟩, ⟨21, 8, 21, 12⟩, ⟨21, 8, 21, 17⟩, ⟨21, 20, 21, 24⟩, ⟨21, 8, 21, 24⟩, -1, .inr rfl⟩, _, _, _, _, _, _, _, _, _, xl2, xd2, xe2, xv2, pf.1, xc2, ⟨_, fun _ => rfl⟩, fun _ _ => rfl⟩, sup := xp2, subV := xw2, mroS := xz2, opq := xo2, htop := pf.2, hsup := PySem.W.mg_none_of X G xu2, f1 := by decide, f2 := by decide, f3 := by decide, f4 := by decide, ml := by decide +kernel },
    ⟨xg2, xh2, xb2, xj2, xca2, xcb2, xcc2, xcd2⟩,
    ⟨xg2, xh2, xb2, xj2⟩,
    exm_of xb2 xsc2 xy2 xss2⟩, rfl, rfl, fun s v => .of_eq rfl⟩
end K57
set_option Elab.async false
set_option linter.all false
set_option maxRecDepth 100000
set_option maxHeartbeats 4000000
namespace K57
open PySem PySem.Spec PyProof.Rows L2 XL
end K57
open PySem PySem.W PyProof.Rows
set_option maxHeartbeats 0 in
theorem PySem.Challenge.cw_drawnanew_k57_stub_of_child_holds : PySem.Challenge.rw_drawnanew_k57_stub_of_child.Holds := by
  w_on; o_law; k_head; (case hw => w_witness2)
  k_fill
  refine L2.walk_of (l := PySem.Challenge.rw_drawnanew_k57_stub_of_child) (n := 63) (k := 100) (x := "_law_script") (CX := fun _ => L2.CX0) (sp := fun w => K57.spLaw _) rfl (by decide) rfl ⟨rfl, by decide, by decide⟩ (fun w h Y => PySem.W.kIn_of Y) ?F (fun _ _ a ns hl _ hS => ⟨a, ns, rfl, hS, hl, fun _ => rfl⟩) (fun _ _ _ _ _ h => h)
  case F =>
    intro w mg fa h KX G hmg
    refine' K57.law_end KX G hmg (K57.top_mk (W := w) KX G ?ca0 ?a0 ?l0 ?c0 ?k0 ?a1 ?l1 ?c1 ?k1 ?a2 ?l2 ?c2 ?k2 ?a3 ?l3 ?c3 ?k3 ?a4 ?l4 ?c4 ?k4 ?a5 ?l5 ?c5 ?k5 ?a6 ?l6 ?c6 ?k6 ?a7 ?l7 ?c7 ?k7 ?a8 ?l8 ?c8 ?k8 ?a9 ?l9 ?c9 ?k9 ?a10 ?l10 ?c10 ?k10 ?a11 ?l11 ?c11 ?k11 ?a12 ?l12 ?c12 ?k12 ?a13 ?l13 ?c13 ?k13 ?a14 ?l14 ?c14 ?k14 ?a15 ?l15 ?c15 ?k15 ?a16 ?l16 ?c16 ?k16 ?a17 ?l17 ?c17 ?k17 ?a18 ?l18 ?c18 ?k18 ?a19 ?l19 ?c19 ?k19 ?a20 ?i20 ?l20 ?kd20_0 ?kl20_0 ?kd20_1 ?kl20_1 ?kd20_2 ?kl20_2 ?kd20_3 ?kl20_3 ?kd20_4 ?kl20_4 ?kd20_5 ?kl20_5 ?kd20_6 ?kl20_6 ?kd20_7 ?kd20_8 ?c20 ?k20 ?a21 ?i21 ?l21 ?c21 ?k21 ?a22 ?i22 ?l22 ?c22 ?k22 ?a23 ?pt23 ?pg23 ?pk23 ?pc23 ?l23 ?c23 ?k23 ?a24 ?pt24 ?pg24 ?pk24 ?pc24 ?l24 ?c24 ?k24 ?a25 ?i25 ?l25 ?c25 ?k25 ?a26 ?l26 ?c26 ?k26 ?a27 ?l27 ?c27 ?k27 ?a28 ?l28 ?c28 ?k28 ?a29 ?l29 ?c29 ?k29 ?a30 ?l30 ?c30 ?k30 ?a31 ?l31 ?c31 ?k31 ?a32 ?l32 ?c32 ?k32 ?a33 ?l33 ?c33 ?k33 ?a34 ?l34 ?c34 ?k34 ?a35 ?l35 ?c35 ?k35 ?a36 ?l36 ?c36 ?k36 ?a37 ?l37 ?c37 ?k37 ?a38 ?l38 ?c38 ?k38 ?a39 ?l39 ?c39 ?k39 ?a40 ?l40 ?c40 ?k40 ?a41 ?l41 ?c41 ?k41 ?a42 ?l42 ?c42 ?k42 ?a43 ?l43 ?c43 ?k43 ?a44 ?l44 ?c44 ?k44 ?a45 ?l45 ?c45 ?k45 ?a46 ?l46 ?c46 ?k46 ?a47 ?l47 ?c47 ?k47 ?a48 ?l48 ?c48 ?k48 ?a49 ?l49 ?c49 ?k49 ?a50 ?l50 ?c50 ?k50 ?a51 ?l51 ?c51 ?k51 ?a52 ?l52 ?c52 ?k52 ?a53 ?l53 ?c53 ?k53 ?a54 ?l54 ?c54 ?k54 ?a55 ?l55 ?c55 ?k55 ?a56 ?l56 ?c56 ?k56 ?a57 ?l57 ?c57 ?k57 ?a58 ?l58 ?c58 ?k58 ?a59 ?l59 ?c59 ?k59 ?z0 ?z1 ?z2 ?z3 ?z4 ?z5 ?z6 ?z7 ?z8 ?z9 ?z10 ?y0 ?x0 ?y1 ?x1 ?y2 ?x2 ?y3 ?x3 ?y4 ?x4 ?y5 ?x5 ?da0 ?dl0 ?dk0 ?dw0 ?dv0_0 ?dv0_1 ?dv0_2 ?dv0_3 ?dv0_4 ?ua0 ?ul0 ?ua1 ?ul1 ?cg0 ?ch0 ?co0 ?cs0 ?cf0_0 ?cf0_1 ?cf0_2 ?cf0_3 ?cf0_4 ?cf0_5 ?cf0_6 ?cf0_7 ?cf0_8 ?cf0_9 ?cf0_10 ?cf0_11 ?cf0_12 ?cf0_13 ?cf0_14 ?cm0 ?ck0 ?ct0_a ?ct0_b ?ct0_c ?ct0_d ?xa0 ?xa1 ?xa2 ?ra0 ?rb0 ?rc0 ?xL0 ?xr0 ?xs0 ?xg0 ?xh0 ?xf0 ?xi0 ?xt0 ?xl0 ?xd0 ?xe0 ?xv0 ?xc0 ?xk0 ?xb0 ?xy0 ?xj0 ?xp0 ?xw0 ?xz0 ?xo0 ?xu0 ?xca0 ?xcb0 ?xcc0 ?xcd0 ?xsc0 ?xss0 ?xL1 ?xr1 ?xs1 ?xg1 ?xh1 ?xf1 ?xi1 ?xt1 ?xl1 ?xd1 ?xe1 ?xv1 ?xc1 ?xk1 ?xb1 ?xy1 ?xj1 ?xp1 ?xw1 ?xz1 ?xo1 ?xu1 ?xca1 ?xcb1 ?xcc1 ?xcd1 ?xsc1 ?xss1 ?xL2 ?xr2 ?xs2 ?xg2 ?xh2 ?xf2 ?xi2 ?xt2 ?xl2 ?xd2 ?xe2 ?xv2 ?xc2 ?xk2 ?xb2 ?xy2 ?xj2 ?xp2 ?xw2 ?xz2 ?xo2 ?xu2 ?xca2 ?xcb2 ?xcc2 ?xcd2 ?xsc2 ?xss2) ?pf
    (case ca0 => k_is)
    (case a0 => k_is)
    (case l0 => k_is)
    (case c0 => k_is)
    (case k0 => k_is)
    (case a1 => k_is)
    (case l1 => k_is)
    (case c1 => k_is)
    (case k1 => k_is)
    (case a2 => k_is)
    (case l2 => k_is)
    (case c2 => k_is)
    (case k2 => k_is)
    (case a3 => k_is)
    (case l3 => k_is)
    (case c3 => k_is)
    (case k3 => k_is)
    (case a4 => k_is)
    (case l4 => k_is)
    (case c4 => k_is)
    (case k4 => k_is)
    (case a5 => k_is)
    (case l5 => k_is)
    (case c5 => k_is)
    (case k5 => k_is)
    (case a6 => k_is)
    (case l6 => k_is)
    (case c6 => k_is)
    (case k6 => k_is)
    (case a7 => k_is)
    (case l7 => k_is)
    (case c7 => k_is)
    (case k7 => k_is)
    (case a8 => k_is)
    (case l8 => k_is)
    (case c8 => k_is)
    (case k8 => k_is)
    (case a9 => k_is)
    (case l9 => k_is)
    (case c9 => k_is)
    (case k9 => k_is)
    (case a10 => k_is)
    (case l10 => k_is)
    (case c10 => k_is)
    (case k10 => k_is)
    (case a11 => k_is)
    (case l11 => k_is)
    (case c11 => k_is)
    (case k11 => k_is)
    (case a12 => k_is)
    (case l12 => k_is)
    (case c12 => k_is)
    (case k12 => k_is)
    (case a13 => k_is)
    (case l13 => k_is)
    (case c13 => k_is)
    (case k13 => k_is)
    (case a14 => k_is)
    (case l14 => k_is)
    (case c14 => k_is)
    (case k14 => k_is)
    (case a15 => k_is)
    (case l15 => k_is)
    (case c15 => k_is)
    (case k15 => k_is)
    (case a16 => k_is)
    (case l16 => k_is)
    (case c16 => k_is)
    (case k16 => k_is)
    (case a17 => k_is)
    (case l17 => k_is)
    (case c17 => k_is)
    (case k17 => k_is)
    (case a18 => k_is)
    (case l18 => k_is)
    (case c18 => k_is)
    (case k18 => k_is)
    (case a19 => k_is)
    (case l19 => k_is)
    (case c19 => k_is)
    (case k19 => k_is)
    (case a20 => k_is)
    (case i20 => k_is)
    (case l20 => k_is)
    (case kd20_0 => k_is)
    (case kl20_0 => k_is)
    (case kd20_1 => k_is)
    (case kl20_1 => k_is)
    (case kd20_2 => k_is)
    (case kl20_2 => k_is)
    (case kd20_3 => k_is)
    (case kl20_3 => k_is)
    (case kd20_4 => k_is)
    (case kl20_4 => k_is)
    (case kd20_5 => k_is)
    (case kl20_5 => k_is)
    (case kd20_6 => k_is)
    (case kl20_6 => k_is)
    (case kd20_7 => k_is)
    (case kd20_8 => k_is)
    (case c20 => k_is)
    (case k20 => k_is)
    (case a21 => k_is)
    (case i21 => k_is)
    (case l21 => k_is)
    (case c21 => k_is)
    (case k21 => k_is)
    (case a22 => k_is)
    (case i22 => k_is)
    (case l22 => k_is)
    (case c22 => k_is)
    (case k22 => k_is)
    (case a23 => k_is)
    (case pt23 => k_is)
    (case pg23 => k_is)
    (case pk23 => k_is)
    (case pc23 => k_is)
    (case l23 => k_is)
    (case c23 => k_is)
    (case k23 => k_is)
    (case a24 => k_is)
    (case pt24 => k_is)
    (case pg24 => k_is)
    (case pk24 => k_is)
    (case pc24 => k_is)
    (case l24 => k_is)
    (case c24 => k_is)
    (case k24 => k_is)
    (case a25 => k_is)
    (case i25 => k_is)
    (case l25 => k_is)
    (case c25 => k_is)
    (case k25 => k_is)
    (case a26 => k_is)
    (case l26 => k_is)
    (case c26 => k_is)
    (case k26 => k_is)
    (case a27 => k_is)
    (case l27 => k_is)
    (case c27 => k_is)
    (case k27 => k_is)
    (case a28 => k_is)
    (case l28 => k_is)
    (case c28 => k_is)
    (case k28 => k_is)
    (case a29 => k_is)
    (case l29 => k_is)
    (case c29 => k_is)
    (case k29 => k_is)
    (case a30 => k_is)
    (case l30 => k_is)
    (case c30 => k_is)
    (case k30 => k_is)
    (case a31 => k_is)
    (case l31 => k_is)
    (case c31 => k_is)
    (case k31 => k_is)
    (case a32 => k_is)
    (case l32 => k_is)
    (case c32 => k_is)
    (case k32 => k_is)
    (case a33 => k_is)
    (case l33 => k_is)
    (case c33 => k_is)
    (case k33 => k_is)
    (case a34 => k_is)
    (case l34 => k_is)
    (case c34 => k_is)
    (case k34 => k_is)
    (case a35 => k_is)
    (case l35 => k_is)
    (case c35 => k_is)
    (case k35 => k_is)
    (case a36 => k_is)
    (case l36 => k_is)
    (case c36 => k_is)
    (case k36 => k_is)
    (case a37 => k_is)
    (case l37 => k_is)
    (case c37 => k_is)
    (case k37 => k_is)
    (case a38 => k_is)
    (case l38 => k_is)
    (case c38 => k_is)
    (case k38 => k_is)
    (case a39 => k_is)
    (case l39 => k_is)
    (case c39 => k_is)
    (case k39 => k_is)
    (case a40 => k_is)
    (case l40 => k_is)
    (case c40 => k_is)
    (case k40 => k_is)
    (case a41 => k_is)
    (case l41 => k_is)
    (case c41 => k_is)
    (case k41 => k_is)
    (case a42 => k_is)
    (case l42 => k_is)
    (case c42 => k_is)
    (case k42 => k_is)
    (case a43 => k_is)
    (case l43 => k_is)
    (case c43 => k_is)
    (case k43 => k_is)
    (case a44 => k_is)
    (case l44 => k_is)
    (case c44 => k_is)
    (case k44 => k_is)
    (case a45 => k_is)
    (case l45 => k_is)
    (case c45 => k_is)
    (case k45 => k_is)
    (case a46 => k_is)
    (case l46 => k_is)
    (case c46 => k_is)
    (case k46 => k_is)
    (case a47 => k_is)
    (case l47 => k_is)
    (case c47 => k_is)
    (case k47 => k_is)
    (case a48 => k_is)
    (case l48 => k_is)
    (case c48 => k_is)
    (case k48 => k_is)
    (case a49 => k_is)
    (case l49 => k_is)
    (case c49 => k_is)
    (case k49 => k_is)
    (case a50 => k_is)
    (case l50 => k_is)
    (case c50 => k_is)
    (case k50 => k_is)
    (case a51 => k_is)
    (case l51 => k_is)
    (case c51 => k_is)
    (case k51 => k_is)
    (case a52 => k_is)
    (case l52 => k_is)
    (case c52 => k_is)
    (case k52 => k_is)
    (case a53 => k_is)
    (case l53 => k_is)
    (case c53 => k_is)
    (case k53 => k_is)
    (case a54 => k_is)
    (case l54 => k_is)
    (case c54 => k_is)
    (case k54 => k_is)
    (case a55 => k_is)
    (case l55 => k_is)
    (case c55 => k_is)
    (case k55 => k_is)
    (case a56 => k_is)
    (case l56 => k_is)
    (case c56 => k_is)
    (case k56 => k_is)
    (case a57 => k_is)
    (case l57 => k_is)
    (case c57 => k_is)
    (case k57 => k_is)
    (case a58 => k_is)
    (case l58 => k_is)
    (case c58 => k_is)
    (case k58 => k_is)
    (case a59 => k_is)
    (case l59 => k_is)
    (case c59 => k_is)
    (case k59 => k_is)
    (case z0 => k_is)
    (case z1 => k_is)
    (case z2 => k_is)
    (case z3 => k_is)
    (case z4 => k_is)
    (case z5 => k_is)
    (case z6 => k_is)
    (case z7 => k_is)
    (case z8 => k_is)
    (case z9 => k_is)
    (case z10 => k_is)
    (case y0 => k_is)
    (case x0 => exact ⟨_, rfl⟩)
    (case y1 => k_is)
    (case x1 => exact ⟨_, rfl⟩)
    (case y2 => k_is)
    (case x2 => exact ⟨_, rfl⟩)
    (case y3 => k_is)
    (case x3 => exact ⟨_, rfl⟩)
    (case y4 => k_is)
    (case x4 => exact ⟨_, rfl⟩)
    (case y5 => k_is)
    (case x5 => exact ⟨_, rfl⟩)
    (case da0 => k_is)
    (case dl0 => k_is)
    (case dk0 => k_keys)
    (case dw0 => rfl)
    (case dv0_0 => k_is)
    (case dv0_1 => k_is)
    (case dv0_2 => k_is)
    (case dv0_3 => k_is)
    (case dv0_4 => k_is)
    (case ua0 => k_is)
    (case ul0 => k_is)
    (case ua1 => k_is)
    (case ul1 => k_is)
    (case cg0 => k_is)
    (case ch0 => k_is)
    (case co0 => k_is)
    (case cs0 => k_is)
    (case cf0_0 => k_is)
    (case cf0_1 => k_is)
    (case cf0_2 => k_is)
    (case cf0_3 => k_is)
    (case cf0_4 => k_is)
    (case cf0_5 => k_is)
    (case cf0_6 => k_is)
    (case cf0_7 => k_is)
    (case cf0_8 => k_is)
    (case cf0_9 => k_is)
    (case cf0_10 => k_is)
    (case cf0_11 => k_is)
    (case cf0_12 => k_is)
    (case cf0_13 => k_is)
    (case cf0_14 => k_is)
    (case cm0 => k_is)
    (case ck0 => k_is)
    (case ct0_a => k_is)
    (case ct0_b => k_is)
    (case ct0_c => k_is)
    (case ct0_d => k_is)
    (case xa0 => k_is)
    (case xa1 => k_is)
    (case xa2 => k_is)
    (case ra0 => k_is)
    (case rb0 => k_is)
    (case rc0 => k_is)
    (case xL0 => k_is)
    (case xr0 => first | rfl | decide +kernel)
    (case xs0 => k_is)
    (case xg0 => k_is)
    (case xh0 => k_is)
    (case xf0 => k_is)
    (case xi0 => k_is)
    (case xt0 => k_is)
    (case xl0 => k_is)
    (case xd0 => k_is)
    (case xe0 => k_is)
    (case xv0 => rfl)
    (case xc0 => k_is)
    (case xk0 => k_is)
    (case xb0 => k_is)
    (case xy0 => k_is)
    (case xj0 => k_is)
    (case xp0 => ks_is)
    (case xw0 => k_is)
    (case xz0 => k_is)
    (case xo0 => k_is)
    (case xu0 => k_is)
    (case xca0 => k_is)
    (case xcb0 => k_is)
    (case xcc0 => k_is)
    (case xcd0 => k_is)
    (case xsc0 => k_is)
    (case xss0 => k_is)
    (case xL1 => k_is)
    (case xr1 => first | rfl | decide +kernel)
    (case xs1 => k_is)
    (case xg1 => k_is)
    (case xh1 => k_is)
    (case xf1 => k_is)
    (case xi1 => k_is)
    (case xt1 => k_is)
    (case xl1 => k_is)
    (case xd1 => k_is)
    (case xe1 => k_is)
    (case xv1 => rfl)
    (case xc1 => k_is)
    (case xk1 => k_is)
    (case xb1 => k_is)
    (case xy1 => k_is)
    (case xj1 => k_is)
    (case xp1 => ks_is)
    (case xw1 => k_is)
    (case xz1 => k_is)
    (case xo1 => k_is)
    (case xu1 => k_is)
    (case xca1 => k_is)
    (case xcb1 => k_is)
    (case xcc1 => k_is)
    (case xcd1 => k_is)
    (case xsc1 => k_is)
    (case xss1 => k_is)
    (case xL2 => k_is)
    (case xr2 => first | rfl | decide +kernel)
    (case xs2 => k_is)
    (case xg2 => k_is)
    (case xh2 => k_is)
    (case xf2 => k_is)
    (case xi2 => k_is)
    (case xt2 => k_is)
    (case xl2 => k_is)
    (case xd2 => k_is)
    (case xe2 => k_is)
    (case xv2 => rfl)
    (case xc2 => k_is)
    (case xk2 => k_is)
    (case xb2 => k_is)
    (case xy2 => k_is)
    (case xj2 => k_is)
    (case xp2 => ks_is)
    (case xw2 => k_is)
    (case xz2 => k_is)
    (case xo2 => k_is)
    (case xu2 => k_is)
    (case xca2 => k_is)
    (case xcb2 => k_is)
    (case xcc2 => k_is)
    (case xcd2 => k_is)
    (case xsc2 => k_is)
    (case xss2 => k_is)
    (case pf => exact ⟨by first | rfl | decide +kernel, by first | rfl | decide +kernel⟩)
