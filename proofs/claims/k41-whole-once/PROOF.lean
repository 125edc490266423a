import PyProof.Rows.All
import Wide.All
import OpenK.AllK
import Wide.FinOn
import HandS.ForMost
import HandS.Flow
import HandS.IsInst
import HandS.Wide
import HandS.Walk
import PyProof.Rows.IntBool
import HandS.Property
import HandS.Star
import HandS.OwnEq
import HandS.SetFor
import KE.GoesEnum
import KE.GoesMore
import HandS.Strs
import HandS.Deep
import HandS.TupAny
import KE.KRevSl
import KE.KOpsOwn
import HandS.ForExc
import HandS.FStr
import HandS.ExcField
import HandS.ExcIs
import HandS.ExcSuper
import KE.KExcSuper
import KE.KExcIs
import HandS.OwnIter
import HandS.IterNext
import HandS.Text
import HandS.Zip
import HandS.HotCalls
import PyProof.ReprRoads
import HandS.Ends
import PyProof.AutoSeq1
import HandS.IterVal
import OpenK.KMake
import HandS.Defaults
import HandS.NoneIn
import HandS.Style
import PyProof.ReprNest
import PyProof.ReprReads
import PyProof.ReprHeads
import HandS.ClsMeth
import HandS.DictComp
import HandS.WideBits
import HandS.Finally
import HandS.DictTup
import PyProof.TupleKey
import PyProof.DictMoreH
import KE.KDictWalk
import HandS.Iter
import HandS.ExcInit
import HandS.TryMany
import PySem.Challenge.RW_drawnanew_k41_whole_once
set_option Elab.async false
set_option linter.all false
set_option maxRecDepth 100000
set_option maxHeartbeats 4000000
/-! XBase: readings that compute, over the hand layer; the heap cut into a part that only grows and cells that change. -/
namespace XL
open PySem PySem.Spec PyProof.Rows L2
abbrev St := L2.St

/-! ### a reading may be exchanged for a stronger one -/
theorem pe_str {X : Cx} {e : Expr} {t t' : TE} (h : PE X e t) (k : ∀ σ H Q, t' σ H Q → t σ H Q) : PE X e t' := ⟨fun pins s σ H Q I q => h.run pins s σ H Q I (k σ H Q q)⟩
theorem pt_str {X : Cx} {e : Expr} {t t' : TT} (h : PT X e t) (k : ∀ σ H Q, t' σ H Q → t σ H Q) : PT X e t' := ⟨fun pins s σ H Q I q => h.run pins s σ H Q I (k σ H Q q)⟩
theorem ps_str {X : Cx} {e : Stmt} {t t' : TS} (h : PS X e t) (k : ∀ D σ H, t' D σ H → t D σ H) : PS X e t' := ⟨fun pins s σ H D I q => h.run pins s σ H D I (k D σ H q)⟩
theorem or_str {X : Cx} {f : Value → Value → Sem Value} {r r' : R2} (h : OpR X f r) (k : ∀ x y H Q, r' x y H Q → r x y H Q) : OpR X f r' := fun pins s σ H x y v u Q I rx ry q => h pins s σ H x y v u Q I rx ry (k x y H Q q)
theorem cr_str {X : Cx} {f : Value} {r r' : List V → Hp → VK → Prop} (h : CallR X f r) (k : ∀ xs H Q, r' xs H Q → r xs H Q) : CallR X f r' := fun pins s σ H xs us Q I rx q => h pins s σ H xs us Q I rx (k xs H Q q)
theorem OpR.or {X : Cx} {f : Value → Value → Sem Value} {r r' : R2} (h : OpR X f r) (h' : OpR X f r') : OpR X f (fun x y H Q => r x y H Q ∨ r' x y H Q) := by
  intro pins s σ H x y v u Q I rx ry q
  rcases q with q | q
  · exact h pins s σ H x y v u Q I rx ry q
  · exact h' pins s σ H x y v u Q I rx ry q

/-! ### names -/
def nth : St → Nat → Option V
  | [], _ => none
  | x :: _, 0 => x
  | _ :: r, n + 1 => nth r n
theorem nth_get : ∀ {σ : St} {i : Nat} {v : V}, nth σ i = some v → σ[i]? = some (some v)
  | [], _, _, h => nomatch h
  | _ :: _, 0, _, h => congrArg some h
  | _ :: r, n + 1, _, h => by
    rw [List.getElem?_cons_succ]
    exact nth_get (σ := r) h
def xVar (i : Nat) : TE := fun σ H Q => match nth σ i with
  | some v => Q v H
  | none => False
section
variable {X : Cx} {a b c : Expr} {ta tb tc : TE} {pos : Pos} {tA tB' : TT} {rest : List Expr}
theorem xv (i : Nat) {x : Str} {pos : Pos} (hN : X.N[i]? = some x := by rfl) (hv : Vis X.env.scope x := by first | exact Or.inl rfl | exact Or.inr (Or.inl rfl) | exact Or.inr (Or.inr rfl)) (hd : (x == ("__debug__" : Str)) = false := by decide)
    (hcd : (x == ("__classdict__" : Str)) = false := by decide) : PE X (.Name x pos) (xVar i) := pe_str (pe_var hN hv hd hcd) fun σ H Q h => by
  unfold xVar at h
  cases e : nth σ i with
  | none => rw [e] at h; exact h.elim
  | some v => rw [e] at h; exact ⟨v, nth_get e, h⟩

/-! ### arithmetic -/
theorem op_mul_ib : OpR X (binaryOp .Mult) (fun x y H Q => ∃ i k, x = .int i ∧ y = .bl k ∧ Q (.int (i * b2i k)) H) := by
  intro pins s σ H x y v u Q I rx ry h
  obtain ⟨i, k, rfl, rfl, q⟩ := h
  obtain ⟨t, rfl⟩ := rx
  cases ry
  refine PySem.IntBool.mul_int_bool ?_
  have e : (if k = true then (1 : Int) else 0) = b2i k := by cases k <;> rfl
  rw [e]
  exact ⟨.int (i * b2i k), H, I.tok _, ⟨_, rfl⟩, q⟩
def yAdd : R2 := fun x y H Q => match x, y with
  | .int i, .int j => Q (.int (i + j)) H
  | .int i, .bl k => Q (.int (i + b2i k)) H
  | .str a, .str b => a.length + b.length ≤ sizeLine ∧ ∀ r : Str, r = a ++ b → Q (.str r) H
  | .ref l, .ref b => rCat (.ref l) (.ref b) H Q
  | _, _ => False
theorem op_addY : OpR X (binaryOp .Add) yAdd := by
  refine or_str (OpR.or (op_add (X := X)) (OpR.or (op_add_ib (X := X)) (OpR.or (op_add_str (X := X)) (op_cat (X := X))))) fun x y H Q h => ?_
  unfold yAdd at h
  split at h
  · exact .inl ⟨_, _, rfl, rfl, h⟩
  · exact .inr (.inl ⟨_, _, rfl, rfl, h⟩)
  · exact .inr (.inr (.inl ⟨_, _, rfl, rfl, h.1, h.2 _ rfl⟩))
  · exact .inr (.inr (.inr h))
  · exact h.elim
def ySub : R2 := fun x y H Q => match x, y with
  | .int i, .int j => Q (.int (i - j)) H
  | _, _ => False
theorem op_subY : OpR X (binaryOp .Sub) ySub := by
  refine or_str (op_sub (X := X)) fun x y H Q h => ?_
  unfold ySub at h
  split at h
  · exact ⟨_, _, rfl, rfl, h⟩
  · exact h.elim
def yMul : R2 := fun x y H Q => match x, y with
  | .int i, .int j => CMul i j ∧ Q (.int (i * j)) H
  | .int i, .bl k => Q (.int (i * b2i k)) H
  | .ref l, .int k => rRep (.ref l) (.int k) H Q
  | _, _ => False
theorem op_mulY : OpR X (binaryOp .Mult) yMul := by
  refine or_str (OpR.or (op_mul (X := X)) (OpR.or (op_mul_ib (X := X)) (op_rep (X := X)))) fun x y H Q h => ?_
  unfold yMul at h
  split at h
  · exact .inl ⟨_, _, rfl, rfl, h.1, h.2⟩
  · exact .inr (.inl ⟨_, _, rfl, rfl, h⟩)
  · exact .inr (.inr h)
  · exact h.elim
def yMod : R2 := fun x y H Q => match x, y with
  | .int i, .int j => 0 < j ∧ ∀ r : Int, r = i % j → 0 ≤ r → r < j → Q (.int r) H
  | _, _ => False
theorem op_modY : OpR X (binaryOp .Mod) yMod := by
  refine or_str (op_mod (X := X)) fun x y H Q h => ?_
  unfold yMod at h
  split at h
  · exact ⟨_, _, rfl, rfl, h.1, h.2 _ rfl (Int.emod_nonneg _ (by have := h.1; omega)) (Int.emod_lt_of_pos _ h.1)⟩
  · exact h.elim
def yDiv : R2 := fun x y H Q => match x, y with
  | .int i, .int j => (0 < j ∧ j < 1073741824) ∧ ∀ r : Int, r = i / j → (0 ≤ i → 0 ≤ r) → Q (.int r) H
  | _, _ => False
theorem op_divY : OpR X (binaryOp .FloorDiv) yDiv := by
  refine or_str (op_fdiv (X := X)) fun x y H Q h => ?_
  unfold yDiv at h
  split at h
  · exact ⟨_, _, rfl, rfl, h.1, h.2 _ rfl (fun h0 => Int.ediv_nonneg h0 (by have := h.1.1; omega))⟩
  · exact h.elim
def yPow : R2 := fun x y H Q => match x, y with
  | .int i, .int j => CPow i j ∧ ∀ r : Int, r = i ^ j.toNat → Q (.int r) H
  | _, _ => False
theorem op_powY : OpR X (binaryOp .Pow) yPow := by
  refine or_str (op_pow (X := X)) fun x y H Q h => ?_
  unfold yPow at h
  split at h
  · exact ⟨_, _, rfl, rfl, h.1, h.2 _ rfl⟩
  · exact h.elim

/-! ### comparisons -/
def yCmp (p : Int → Int → Bool) : R2 := fun x y H Q => match x, y with
  | .int i, .int j => Q (.bl (p i j)) H
  | _, _ => False
theorem yCmp_rI {p : Int → Int → Bool} {x y : V} {H : Hp} {Q : VK} (h : yCmp p x y H Q) : rI0 (fun i j => .bl (p i j)) x y H Q := by
  unfold yCmp at h
  split at h
  · exact ⟨_, _, rfl, rfl, h⟩
  · exact h.elim
theorem op_ltY : OpR X (compareOp .Lt) (yCmp fun i j => decide (i < j)) := or_str (op_lt (X := X)) fun _ _ _ _ h => yCmp_rI h
theorem op_leY : OpR X (compareOp .LtE) (yCmp fun i j => decide (i ≤ j)) := or_str (op_le (X := X)) fun _ _ _ _ h => yCmp_rI h
theorem op_gtY : OpR X (compareOp .Gt) (yCmp fun i j => decide (j < i)) := or_str (op_gt (X := X)) fun _ _ _ _ h => yCmp_rI h
theorem op_geY : OpR X (compareOp .GtE) (yCmp fun i j => decide (j ≤ i)) := or_str (op_ge (X := X)) fun _ _ _ _ h => yCmp_rI h
def yEq (K : PySem.W.Frag) : R2 := fun x y H Q => match x, y with
  | .int i, .int j => Q (.bl (decide (i = j))) H
  | .str i, .str j => Q (.bl (decide (i = j))) H
  | .bl i, .bl j => Q (.bl (decide (i = j))) H
  | .ref a, .ref b => rEqD K (.ref a) (.ref b) H Q
  | x, y => scal x y = true ∧ Q (.bl (decide (x = y))) H
def yNe (K : PySem.W.Frag) : R2 := fun x y H Q => match x, y with
  | .int i, .int j => Q (.bl (!decide (i = j))) H
  | .str i, .str j => Q (.bl (!decide (i = j))) H
  | .bl i, .bl j => Q (.bl (!decide (i = j))) H
  | .ref a, .ref b => rNeD K (.ref a) (.ref b) H Q
  | x, y => scal x y = true ∧ Q (.bl (!decide (x = y))) H
theorem deci {i j : Int} : decide (V.int i = V.int j) = decide (i = j) := by by_cases h : i = j <;> simp [h]
theorem decs {i j : Str} : decide (V.str i = V.str j) = decide (i = j) := by by_cases h : i = j <;> simp [h]
theorem decb {i j : Bool} : decide (V.bl i = V.bl j) = decide (i = j) := by by_cases h : i = j <;> simp [h]
theorem op_eqY (hu : X.A.units + 64 < cLine) : OpR X (compareOp .Eq) (yEq X.K) := by
  refine or_str (OpR.or (op_eq (X := X)) (op_eqD hu)) fun x y H Q h => ?_
  unfold yEq at h
  split at h
  · exact .inl ⟨rfl, by rw [deci]; exact h⟩
  · exact .inl ⟨rfl, by rw [decs]; exact h⟩
  · exact .inl ⟨rfl, by rw [decb]; exact h⟩
  · exact .inr h
  · exact .inl h
theorem op_neY (hu : X.A.units + 64 < cLine) : OpR X (compareOp .NotEq) (yNe X.K) := by
  refine or_str (OpR.or (op_ne (X := X)) (op_neD hu)) fun x y H Q h => ?_
  unfold yNe at h
  split at h
  · exact .inl ⟨rfl, by rw [deci]; exact h⟩
  · exact .inl ⟨rfl, by rw [decs]; exact h⟩
  · exact .inl ⟨rfl, by rw [decb]; exact h⟩
  · exact .inr h
  · exact .inl h

/-! ### tests -/
/-- a bool as a test -/
def xB (t : TE) : TT := fun σ H Q => t σ H fun x H1 => match x with
  | .bl c => Q c H1
  | _ => False
theorem pe_mono {X : Cx} {e : Expr} {t : TE} (_h : PE X e t) : True := trivial
theorem xt_cmp {op : CmpOp} {r : R2} (ho : OpR X (compareOp op) r) (ha : PE X a ta) (hb : PE X b tb) (hm : behindInMarks op b = false) : PT X (.Compare a [op] [b] pos) (xB (tOp r ta tb)) := by
  refine ⟨fun pins s σ H Q I h => ?_⟩
  refine wpAny_isTrue_Compare1 (thn (ha.run pins s σ H _ I h) fun v s1 ⟨x, H1, I1, r1, q1⟩ => thn (hb.run pins s1 σ H1 _ I1 q1) fun u s2 ⟨y, H2, I2, r2, q2⟩ =>
    thn (ho pins s2 σ H2 x y v u _ I2 r1 r2 q2) fun c s3 ⟨z, H3, I3, r3, q3⟩ => ?_) hm
  cases z with
  | bl k =>
    cases r3
    exact wpAny_truthy_bool ⟨H3, I3, q3⟩
  | _ => exact False.elim q3
theorem xt_val {e : Expr} {t : TE} (h : PE X e t) (he : ∀ whole, isTrue e X.env whole = (do let v ← whole; standAt e.pos; holding [v] (truthy v)) := by intro _; rfl) : PT X e (xB t) := by
  refine ⟨fun pins s σ H Q I hw => ?_⟩
  refine isTrue_plain (thn (h.run pins s σ H _ I hw) fun v s1 ⟨x, H1, I1, r1, q1⟩ => ?_) (he _)
  cases x with
  | bl k =>
    cases r1
    exact wpAny_truthy_bool ⟨H1, I1, q1⟩
  | _ => exact False.elim q1
/-- the truth of a value -/
def yTru (K : PySem.W.Frag) (x : V) (H : Hp) (Q : Bool → Hp → Prop) : Prop := match x with
  | .bl c => Q c H
  | .int i => Q (i != 0) H
  | .non => Q false H
  | x => ∃ k, TruV K x H k ∧ Q k H
def xTru (K : PySem.W.Frag) (t : TE) : TT := fun σ H Q => t σ H fun x H1 => yTru K x H1 Q
theorem xt_tru (ha : PE X a ta) (he : ∀ whole, isTrue a X.env whole = (do let v ← whole; standAt a.pos; holding [v] (truthy v)) := by intro _; rfl) : PT X a (xTru X.K ta) := by
  have hq : PE X a (fun σ H Q => ta σ H Q) := ha
  refine ⟨fun pins s σ H Q I hw => ?_⟩
  refine isTrue_plain (thn (ha.run pins s σ H _ I hw) fun v s1 ⟨x, H1, I1, r1, q1⟩ => ?_) (he _)
  have q2 : ∃ k, TruV X.K x H1 k ∧ Q k H1 := by
    change yTru X.K x H1 Q at q1
    unfold yTru at q1
    split at q1
    · exact ⟨_, rfl, q1⟩
    · exact ⟨_, rfl, q1⟩
    · exact ⟨_, rfl, q1⟩
    · exact q1
  exact tru_ok pins s1 σ H1 x v Q I1 r1 q2
def xAnd (t u : TT) : TT := fun σ H Q => t σ H fun c H1 => (c = true → u σ H1 Q) ∧ (c = false → Q false H1)
def xOr (t u : TT) : TT := fun σ H Q => t σ H fun c H1 => (c = true → Q true H1) ∧ (c = false → u σ H1 Q)
theorem xw_and (ha : PT X a tA) (hb : PW X (.BoolOp .And (b :: rest) pos) tB') : PW X (.BoolOp .And (a :: b :: rest) pos) (xAnd tA tB') := by
  refine ⟨fun wh pins s0 σ H Q J h => ?_⟩
  refine isTrue_and (thn (ha.run pins s0 σ H _ J h) fun k s2 ⟨H2, J2, q2⟩ => ?_)
  cases k with
  | true => exact hb.run wh pins s2 σ H2 Q J2 (q2.1 rfl)
  | false => exact ⟨H2, J2, q2.2 rfl⟩
theorem xw_or (ha : PT X a tA) (hb : PW X (.BoolOp .Or (b :: rest) pos) tB') : PW X (.BoolOp .Or (a :: b :: rest) pos) (xOr tA tB') := by
  refine ⟨fun wh pins s0 σ H Q J h => ?_⟩
  refine isTrue_or (thn (ha.run pins s0 σ H _ J h) fun k s2 ⟨H2, J2, q2⟩ => ?_)
  cases k with
  | true => exact ⟨H2, J2, q2.1 rfl⟩
  | false => exact hb.run wh pins s2 σ H2 Q J2 (q2.2 rfl)
/-- and, or, not as values: of bools -/
def xAndV (ta tb : TE) : TE := fun σ H Q => ta σ H fun x H1 => match x with
  | .bl c => (c = true → tb σ H1 Q) ∧ (c = false → Q (.bl false) H1)
  | _ => False
def xOrV (ta tb : TE) : TE := fun σ H Q => ta σ H fun x H1 => match x with
  | .bl c => (c = true → Q (.bl true) H1) ∧ (c = false → tb σ H1 Q)
  | _ => False
def xNotV (ta : TE) : TE := fun σ H Q => ta σ H fun x H1 => match x with
  | .bl c => Q (.bl (!c)) H1
  | _ => False
theorem xe_and (ha : PE X a ta) (hb : PE X (.BoolOp .And (b :: rest) pos) tb) : PE X (.BoolOp .And (a :: b :: rest) pos) (xAndV ta tb) := by
  refine ⟨fun pins s0 σ H Q J h => ?_⟩
  refine BoolOp_and (thn (ha.run pins s0 σ H _ J h) fun v s2 ⟨x, H2, J2, r2, q2⟩ => ?_)
  cases x with
  | bl k =>
    cases r2
    refine wpAny_truthy_bool ?_
    cases k with
    | true => exact hb.run pins s2 σ H2 Q J2 (q2.1 rfl)
    | false => exact ⟨.bl false, H2, J2, rfl, q2.2 rfl⟩
  | _ => exact False.elim q2
theorem xe_or (ha : PE X a ta) (hb : PE X (.BoolOp .Or (b :: rest) pos) tb) : PE X (.BoolOp .Or (a :: b :: rest) pos) (xOrV ta tb) := by
  refine ⟨fun pins s0 σ H Q J h => ?_⟩
  refine BoolOp_or (thn (ha.run pins s0 σ H _ J h) fun v s2 ⟨x, H2, J2, r2, q2⟩ => ?_)
  cases x with
  | bl k =>
    cases r2
    refine wpAny_truthy_bool ?_
    cases k with
    | true => exact ⟨.bl true, H2, J2, rfl, q2.1 rfl⟩
    | false => exact hb.run pins s2 σ H2 Q J2 (q2.2 rfl)
  | _ => exact False.elim q2
theorem xe_not (ha : PE X a ta) : PE X (.UnaryOp .Not a pos) (xNotV ta) := by
  refine ⟨fun pins s0 σ H Q J h => ?_⟩
  refine UnaryOp_ (thn (ha.run pins s0 σ H _ J h) fun v s2 ⟨x, H2, J2, r2, q2⟩ => ?_)
  cases x with
  | bl k =>
    cases r2
    exact not_of (wpAny_truthy_bool ⟨.bl (!k), H2, J2, rfl, q2⟩)
  | _ => exact False.elim q2
/-- a if t else b -/
def xIf (t : TT) (ta tb : TE) : TE := fun σ H Q => t σ H fun c H1 => (c = true → ta σ H1 Q) ∧ (c = false → tb σ H1 Q)
theorem xe_if {c : Expr} (hc : PT X c tA) (ha : PE X a ta) (hb : PE X b tb) : PE X (.IfExp c a b pos) (xIf tA ta tb) := by
  refine ⟨fun pins s0 σ H Q J h => ?_⟩
  refine wpAny_IfExp (thn (hc.run pins s0 σ H _ J h) fun k s2 ⟨H2, J2, q2⟩ => ?_)
  cases k with
  | true => exact ha.run pins s2 σ H2 Q J2 (q2.1 rfl)
  | false => exact hb.run pins s2 σ H2 Q J2 (q2.2 rfl)
/-- if t: .. else: .. -/
def xIfS (c : TT) (t u : TS) : TS := fun D σ H => c σ H fun b H1 => (b = true → t D σ H1) ∧ (b = false → u D σ H1)
theorem xs_if {c : Expr} {as bs : List Stmt} {tc : TT} {t u : TS} (hc : PT X c tc) (ha : PSs X as t) (hb : PSs X bs u) : PS X (.If c as bs pos) (xIfS tc t u) := by
  refine ⟨fun pins s0 σ H D J h => ?_⟩
  refine wpAny_If (thn (hc.run pins s0 σ H _ J h) fun k s2 ⟨H2, J2, q2⟩ => ?_)
  cases k with
  | true => exact ha.run pins s2 σ H2 D J2 (q2.1 rfl)
  | false => exact hb.run pins s2 σ H2 D J2 (q2.2 rfl)

/-! ### calls of built-ins -/
def yLen (K : PySem.W.Frag) : List V → Hp → VK → Prop := fun xs H Q => match xs with
  | [.str y] => y.length ≤ sizeLine ∧ Q (.int y.length) H
  | [.ref p] => ∃ ys, (SqL K H p ys ∨ SqT K H p ys) ∧ Q (.int ys.length) H
  | _ => False
theorem cr_len : CallR X (.builtin "len") (yLen X.K) := by
  refine cr_str (call_len (X := X)) fun xs H Q h => ?_
  unfold yLen at h
  split at h
  · exact ⟨_, _, rfl, ⟨h.1, rfl⟩, h.2⟩
  · obtain ⟨ys, hy, q⟩ := h
    rcases hy with hy | hy
    · exact ⟨_, _, rfl, .inl ⟨ys, hy, rfl⟩, q⟩
    · exact ⟨_, _, rfl, .inr ⟨ys, hy, rfl⟩, q⟩
  · exact h.elim
def yInt : List V → Hp → VK → Prop := fun xs H Q => match xs with
  | [.int i] => Q (.int i) H
  | [.bl k] => Q (.int (if k then 1 else 0)) H
  | [.str z] => ∃ n, PySem.intText? z = some n ∧ z.length ≤ 640 ∧ Q (.int n) H
  | _ => False
theorem cr_int : CallR X (.type "int") yInt := by
  refine cr_str (CallR.or (call_int1 (X := X)) (call_int_str (X := X))) fun xs H Q h => ?_
  unfold yInt at h
  split at h
  · exact .inl (.inl ⟨_, rfl, h⟩)
  · exact .inl (.inr ⟨_, rfl, h⟩)
  · obtain ⟨n, h1, h2, q⟩ := h
    exact .inr ⟨_, n, rfl, h1, h2, q⟩
  · exact h.elim
def yAbs : List V → Hp → VK → Prop := fun xs H Q => match xs with
  | [.int i] => Q (.int i.natAbs) H
  | _ => False
theorem cr_abs : CallR X (.builtin "abs") yAbs := by
  refine cr_str (call_abs (X := X)) fun xs H Q h => ?_
  unfold yAbs at h
  split at h
  · rename_i i
    refine ⟨i, rfl, ?_⟩
    have e : (if i < 0 then -i else i) = (i.natAbs : Int) := by split <;> omega
    rw [e]
    exact h
  · exact h.elim
def yStr : List V → Hp → VK → Prop := fun xs H Q => match xs with
  | [.int i] => i.natAbs.log2 < 1920 ∧ Q (.str (toString i)) H
  | _ => False
theorem cr_strI : CallR X (.type "str") yStr := by
  refine cr_str (call_str_int (X := X)) fun xs H Q h => ?_
  unfold yStr at h
  split at h
  · exact ⟨_, rfl, h.1, h.2⟩
  · exact h.elim
def yIx (K : PySem.W.Frag) : R2 := fun x y H Q => match x, y with
  | .ref p, .int i => ∃ xs v, (SqL K H p xs ∨ SqT K H p xs) ∧ atI xs i = some v ∧ Q v H
  | .str z, .int i => ∃ c, z.length ≤ sizeLine ∧ atI z.cps.toList i = some c ∧ Q (.str ⟨#[c]⟩) H
  | _, _ => False
theorem ix_y : IxR X (yIx X.K) := by
  intro value slice pins s σ H x y v u Q I rx ry h hs
  refine ix_seq (X := X) value slice pins s σ H x y v u Q I rx ry ?_ hs
  unfold yIx at h
  split at h
  · obtain ⟨xs, z, h1, h2, q⟩ := h
    rcases h1 with h1 | h1
    · exact .inl ⟨_, xs, _, z, rfl, rfl, h1, h2, q⟩
    · exact .inr (.inl ⟨_, xs, _, z, rfl, rfl, h1, h2, q⟩)
  · obtain ⟨k, h1, h2, q⟩ := h
    exact .inr (.inr ⟨_, _, k, rfl, rfl, h1, h2, q⟩)
  · exact h.elim
end

/-! ### the heap: what only grows, and the cells that change -/
def Sep (G : Hp) (M : List (Addr × HO)) (H : Hp) : Prop := Same G H ∧ (∀ p ∈ M, H p.1 = some p.2 ∧ G p.1 = none) ∧ (M.map (·.1)).Nodup
section
variable {G G' H H' : Hp} {M : List (Addr × HO)} {p a b : Addr} {o o' u : HO}
theorem same_upd (h : H p = none) : Same H (upd H p o) := fun b x e => by
  rw [upd_ne (ne_of_none e h)]
  exact e
theorem sep0 : Sep H [] H := ⟨Same.refl H, (fun _ h => nomatch h), List.nodup_nil⟩
theorem Sep.st (S : Sep G M H) (h : G a = some o) : H a = some o := S.1 a o h
theorem Sep.hd (S : Sep G ((a, o) :: M) H) : H a = some o := (S.2.1 _ List.mem_cons_self).1
theorem Sep.at (S : Sep G M H) (h : (a, o) ∈ M) : H a = some o := (S.2.1 _ h).1
theorem Sep.fresh (S : Sep G M H) (h : H p = none) : G p = none := S.1.free h
theorem Sep.new (S : Sep G M H) (h : H p = none) : Sep G ((p, o) :: M) (upd H p o) := by
  refine ⟨S.1.trans (same_upd h), fun q hq => ?_, ?_⟩
  · rcases List.mem_cons.mp hq with rfl | hq
    · exact ⟨upd_same, S.fresh h⟩
    · exact ⟨same_upd h _ _ (S.2.1 q hq).1, (S.2.1 q hq).2⟩
  · rw [List.map_cons, List.nodup_cons]
    refine ⟨fun hm => ?_, S.2.2⟩
    obtain ⟨q, hq, e⟩ := List.mem_map.mp hm
    have z := (S.2.1 q hq).1
    rw [e, h] at z
    cases z
theorem Sep.newG (S : Sep G M H) (h : H p = none) : Sep (upd G p o) M (upd H p o) := by
  refine ⟨fun b x e => ?_, fun q hq => ?_, S.2.2⟩
  · by_cases hb : b = p
    · subst hb
      rw [upd_same] at e ⊢
      exact e
    · rw [upd_ne hb] at e ⊢
      exact S.1 b x e
  · have z := S.2.1 q hq
    refine ⟨same_upd h _ _ z.1, ?_⟩
    rw [upd_ne (ne_of_none z.1 h)]
    exact z.2
theorem Sep.grow (S : Sep G M H) (h : H p = none) : Same G (upd G p o) := same_upd (S.fresh h)
theorem Sep.set (S : Sep G ((a, o) :: M) H) : Sep G ((a, o') :: M) (upd H a o') := by
  have hn := S.2.2
  rw [List.map_cons, List.nodup_cons] at hn
  have ha := S.2.1 _ List.mem_cons_self
  refine ⟨fun b x e => ?_, fun q hq => ?_, S.2.2⟩
  · rw [upd_ne (ne_of_none e ha.2)]
    exact S.1 b x e
  · rcases List.mem_cons.mp hq with rfl | hq
    · exact ⟨upd_same, ha.2⟩
    · refine ⟨?_, (S.2.1 q (List.mem_cons_of_mem _ hq)).2⟩
      rw [upd_ne (show q.1 ≠ a from fun e => hn.1 (by have z : q.1 ∈ M.map (·.1) := List.mem_map_of_mem hq
                                                      rw [e] at z; exact z))]
      exact (S.2.1 q (List.mem_cons_of_mem _ hq)).1
theorem Sep.frz (S : Sep G ((a, o) :: M) H) : Sep (upd G a o) M H := by
  have hn := S.2.2
  rw [List.map_cons, List.nodup_cons] at hn
  have ha := S.2.1 _ List.mem_cons_self
  refine ⟨fun b x e => ?_, fun q hq => ?_, hn.2⟩
  · by_cases hb : b = a
    · subst hb
      rw [upd_same] at e
      cases e
      exact ha.1
    · rw [upd_ne hb] at e
      exact S.1 b x e
  · have z := S.2.1 q (List.mem_cons_of_mem _ hq)
    refine ⟨z.1, ?_⟩
    rw [upd_ne (show q.1 ≠ a from fun e => hn.1 (by have z : q.1 ∈ M.map (·.1) := List.mem_map_of_mem hq
                                                    rw [e] at z; exact z))]
    exact z.2
theorem Sep.none (S : Sep G ((a, o) :: M) H) : G a = none := (S.2.1 _ List.mem_cons_self).2
theorem Sep.frzS (S : Sep G ((a, o) :: M) H) : Same G (upd G a o) := same_upd S.none
theorem Sep.drop {q : Addr × HO} (S : Sep G (q :: M) H) : Sep G M H := by
  have hn := S.2.2
  rw [List.map_cons, List.nodup_cons] at hn
  exact ⟨S.1, fun p hp => S.2.1 p (List.mem_cons_of_mem _ hp), hn.2⟩
theorem Sep.perm {M' : List (Addr × HO)} (S : Sep G M H) (h : M.Perm M') : Sep G M' H :=
  ⟨S.1, fun q hq => S.2.1 q (h.mem_iff.mpr hq), (h.map _).nodup_iff.mp S.2.2⟩
theorem Sep.sw {q r : Addr × HO} (S : Sep G (q :: r :: M) H) : Sep G (r :: q :: M) H := S.perm (List.Perm.swap _ _ _)
theorem same_l {K : PySem.W.Frag} {xs : List V} (e : Same H H') (h : SqL K H a xs) : SqL K H' a xs := e.seq h
theorem same_t {K : PySem.W.Frag} {xs : List V} (e : Same H H') (h : SqT K H a xs) : SqT K H' a xs := by
  rcases h with (h | ⟨o, h⟩) | h
  · exact .inl (.inl (e _ _ h))
  · exact .inl (.inr ⟨o, e _ _ h⟩)
  · exact .inr h
theorem Sep.l {K : PySem.W.Frag} {xs : List V} (S : Sep G M H) (h : SqL K G a xs) : SqL K H a xs := same_l S.1 h
theorem Sep.t {K : PySem.W.Frag} {xs : List V} (S : Sep G M H) (h : SqT K G a xs) : SqT K H a xs := same_t S.1 h
end
mutual
theorem dp_same {K : PySem.W.Frag} {H H' : Hp} (e : Same H H') : ∀ {d : PyData} {v : V}, Dp K H v d → Dp K H' v d
  | _, _, .non => .non
  | _, _, .bl b => .bl b
  | _, _, .int i => .int i
  | _, _, .str x => .str x
  | _, _, .lst h hs => .lst (same_l e h) (dpa_same e hs)
  | _, _, .tup h hs => .tup (same_t e h) (dpa_same e hs)
theorem dpa_same {K : PySem.W.Frag} {H H' : Hp} (e : Same H H') : ∀ {ds : List PyData} {vs : List V}, DpAll K H vs ds → DpAll K H' vs ds
  | _, _, .nil => .nil
  | _, _, .cons h hs => .cons (dp_same e h) (dpa_same e hs)
end

/-! ### loops by what has been gone through -/
theorem take_pre {α : Type} {xs : List α} {i : Nat} {x : α} (h : xs[i]? = some x) : xs = xs.take i ++ x :: xs.drop (i + 1) ∧ xs.take (i + 1) = xs.take i ++ [x] := by
  have hi : i < xs.length := (List.getElem?_eq_some_iff.mp h).1
  have e : xs[i] = x := (List.getElem?_eq_some_iff.mp h).2
  refine ⟨?_, ?_⟩
  · rw [← e, List.getElem_cons_drop, List.take_append_drop]
  · rw [List.take_add_one, h]
    rfl
section
variable {K : PySem.W.Frag} {a : Addr} {xs : List V} {g : TG} {tb : TS} {D : Ends} {σ : L2.St} {H : Hp}
theorem for_pre (Pv : List V → L2.St → Hp → Prop) (h0 : Pv [] σ H) (hl : ∀ pre σ H, Pv pre σ H → SqL K H a xs)
    (hs : ∀ pre x post σ H, xs = pre ++ x :: post → Pv pre σ H → g x σ H fun σ2 H2 => tb { D with nx := Pv (pre ++ [x]), ct := Pv (pre ++ [x]), bk := D.nx } σ2 H2) (hd : ∀ σ H, Pv xs σ H → D.nx σ H) :
    ∃ W : Nat → Nat → L2.St → Hp → Prop, (∃ m, W 0 m σ H) ∧ ∀ i m σ H, W i m σ H →
      ((Itl K a).stop i H ∧ D.nx σ H) ∨ ((Itl K a).go i H ∧ ∃ N : L2.St → Hp → Prop, (∀ σ' H', N σ' H' → ∃ m', m' < m ∧ W (i + 1) m' σ' H') ∧ ∀ x H', (Itl K a).yld i H x H' → g x σ H' fun σ2 H2 => tb { D with nx := N, ct := N, bk := D.nx } σ2 H2) :=
  for_list (fun i => Pv (xs.take i)) h0 (fun i σ H _ p => hl _ σ H p) (fun i x σ H hx p => by
    rw [(take_pre hx).2]
    exact hs _ x _ σ H (take_pre hx).1 p) (fun σ H p => hd σ H (by rw [List.take_length] at p; exact p))
theorem for_preT (Pv : List V → L2.St → Hp → Prop) (h0 : Pv [] σ H) (hl : ∀ pre σ H, Pv pre σ H → SqT K H a xs)
    (hs : ∀ pre x post σ H, xs = pre ++ x :: post → Pv pre σ H → g x σ H fun σ2 H2 => tb { D with nx := Pv (pre ++ [x]), ct := Pv (pre ++ [x]), bk := D.nx } σ2 H2) (hd : ∀ σ H, Pv xs σ H → D.nx σ H) :
    ∃ W : Nat → Nat → L2.St → Hp → Prop, (∃ m, W 0 m σ H) ∧ ∀ i m σ H, W i m σ H →
      ((Itt K a).stop i H ∧ D.nx σ H) ∨ ((Itt K a).go i H ∧ ∃ N : L2.St → Hp → Prop, (∀ σ' H', N σ' H' → ∃ m', m' < m ∧ W (i + 1) m' σ' H') ∧ ∀ x H', (Itt K a).yld i H x H' → g x σ H' fun σ2 H2 => tb { D with nx := N, ct := N, bk := D.nx } σ2 H2) :=
  for_tup (fun i => Pv (xs.take i)) h0 (fun i σ H _ p => hl _ σ H p) (fun i x σ H hx p => by
    rw [(take_pre hx).2]
    exact hs _ x _ σ H (take_pre hx).1 p) (fun σ H p => hd σ H (by rw [List.take_length] at p; exact p))
/-- for i, x in enumerate(xs) -/
theorem for_enum {i j : Nat} (Pv : List V → L2.St → Hp → Prop) (h0 : Pv [] σ H) (hl : ∀ pre σ H, Pv pre σ H → SqL K H a xs)
    (hs : ∀ pre x post σ H T, xs = pre ++ x :: post → Pv pre σ H → H T = none →
      tb { D with nx := Pv (pre ++ [x]), ct := Pv (pre ++ [x]), bk := D.nx } ((σ.set i (some (.int (pre.length : Nat)))).set j (some x)) (upd H T (.tup [.int (pre.length : Nat), x]))) (hd : ∀ σ H, Pv xs σ H → D.nx σ H) :
    ∃ W : Nat → Nat → L2.St → Hp → Prop, (∃ m, W 0 m σ H) ∧ ∀ k m σ H, W k m σ H →
      ((Ite K a).stop k H ∧ D.nx σ H) ∨ ((Ite K a).go k H ∧ ∃ N : L2.St → Hp → Prop, (∀ σ' H', N σ' H' → ∃ m', m' < m ∧ W (k + 1) m' σ' H') ∧ ∀ x H', (Ite K a).yld k H x H' →
        (gTup K 2 (gCons (gName i) (gCons (gName j) gNil))) x σ H' fun σ2 H2 => tb { D with nx := N, ct := N, bk := D.nx } σ2 H2) := by
  refine ⟨fun k m σ H => m = xs.length - k ∧ k ≤ xs.length ∧ Pv (xs.take k) σ H, ⟨xs.length, by simp, Nat.zero_le _, h0⟩, ?_⟩
  rintro k m σ H ⟨rfl, hk, p⟩
  have q := hl _ σ H p
  by_cases hlt : k < xs.length
  · refine .inr ⟨⟨xs, xs[k], q, by simp [hlt]⟩, Pv (xs.take (k + 1)), fun σ' H' p' => ⟨xs.length - (k + 1), by omega, rfl, hlt, p'⟩, fun v H' y => ?_⟩
    obtain ⟨T, x, rfl, nT, rfl, hx⟩ := y
    have hx := hx xs q
    refine ⟨T, _, rfl, SqT.of upd_same, rfl, _, _, rfl, _, _, rfl, rfl, ?_⟩
    have z := hs _ x _ σ H T (take_pre hx).1 p nT
    rw [(take_pre hx).2]
    rw [show (xs.take k).length = k by rw [List.length_take]; omega] at z
    exact z
  · have e : k = xs.length := by omega
    subst e
    rw [List.take_length] at p
    exact .inl ⟨⟨xs, q, Nat.le_refl _⟩, hd σ H p⟩
/-- [e for x in xs] -/
theorem lc_pre {te : TE} {vs : List Nat} {i : Nat} {H1 : Hp} {L : Addr} {Qd : Hp → Prop} (Pv : List V → Hp → Prop) (h0 : Pv [] (upd H1 L (.lst []))) (hl : ∀ pre H, Pv pre H → SqL K H a xs)
    (hw : ∀ x, wipe ((wipe σ vs).set i (some x)) vs = wipe σ vs)
    (hs : ∀ pre x post H, xs = pre ++ x :: post → Pv pre H → te ((wipe σ vs).set i (some x)) H fun y H4 => ∃ acc, H4 L = some (.lst acc) ∧ acc.length < sizeLine ∧ Pv (pre ++ [x]) (upd H4 L (.lst (acc ++ [y])))) (hd : ∀ H, Pv xs H → Qd H) :
    ∃ W : Nat → Nat → Hp → Prop, (∃ m, W 0 m (upd H1 L (.lst []))) ∧ ∀ k m H, W k m H →
      ((Itl K a).stop k H ∧ Qd H) ∨ ((Itl K a).go k H ∧ ∃ Nx : Hp → Prop, (∀ H', Nx H' → ∃ m', m' < m ∧ W (k + 1) m' H') ∧ ∀ x H', (Itl K a).yld k H x H' → gName i x (wipe σ vs) H' fun σ2 H2 => wipe σ2 vs = wipe σ vs ∧ tYes σ2 H2 fun b H3 =>
        if b = true then te σ2 H3 fun y H4 => ∃ acc, H4 L = some (.lst acc) ∧ acc.length < sizeLine ∧ Nx (upd H4 L (.lst (acc ++ [y]))) else Nx H3) :=
  lc_list (fun k => Pv (xs.take k)) h0 (fun k H _ p => hl _ H p) (fun k x H hx p => ⟨hw x, by
    rw [(take_pre hx).2]
    exact hs _ x _ H (take_pre hx).1 p⟩) (fun H p => hd H (by rw [List.take_length] at p; exact p))
/-- [e for x in range(n)] -/
theorem lc_rng {te : TE} {vs : List Nat} {i : Nat} {n : Nat} {lo : Int} {H1 : Hp} {L : Addr} {Qd : Hp → Prop} (Pv : Nat → Hp → Prop) (h0 : Pv 0 (upd H1 L (.lst [])))
    (hw : ∀ x, wipe ((wipe σ vs).set i (some x)) vs = wipe σ vs)
    (hs : ∀ k H, k < n → Pv k H → te ((wipe σ vs).set i (some (.int (lo + k)))) H fun y H4 => ∃ acc, H4 L = some (.lst acc) ∧ acc.length < sizeLine ∧ Pv (k + 1) (upd H4 L (.lst (acc ++ [y])))) (hd : ∀ H, Pv n H → Qd H) :
    ∃ W : Nat → Nat → Hp → Prop, (∃ m, W 0 m (upd H1 L (.lst []))) ∧ ∀ k m H, W k m H →
      ((Itr lo n).stop k H ∧ Qd H) ∨ ((Itr lo n).go k H ∧ ∃ Nx : Hp → Prop, (∀ H', Nx H' → ∃ m', m' < m ∧ W (k + 1) m' H') ∧ ∀ x H', (Itr lo n).yld k H x H' → gName i x (wipe σ vs) H' fun σ2 H2 => wipe σ2 vs = wipe σ vs ∧ tYes σ2 H2 fun b H3 =>
        if b = true then te σ2 H3 fun y H4 => ∃ acc, H4 L = some (.lst acc) ∧ acc.length < sizeLine ∧ Nx (upd H4 L (.lst (acc ++ [y]))) else Nx H3) :=
  lc_range (lo := lo) (n := n) Pv h0 (fun k H hk p => ⟨hw _, hs k H hk p⟩) hd
end
/-! ### places of lists -/
theorem atI_in {α : Type} {xs : List α} {i : Int} (h0 : 0 ≤ i) (h1 : i < xs.length) : ∃ v, atI xs i = some v ∧ v ∈ xs := by
  obtain ⟨j, rfl⟩ : ∃ j : Nat, i = (j : Int) := ⟨i.toNat, by omega⟩
  have hj : j < xs.length := by omega
  exact ⟨xs[j], atI_nat (List.getElem?_eq_getElem hj), List.getElem_mem hj⟩
theorem small {n : Nat} (h : n ≤ 100000) : n ≤ sizeLine := Nat.le_trans h (by decide)
theorem smallL {n : Nat} (h : n < 100000) : n < sizeLine := Nat.lt_of_lt_of_le h (by decide)
theorem sz {n : Nat} (h : Nat.ble n 100000 = true := by rfl) : n ≤ sizeLine := small (Nat.le_of_ble_eq_true h)
theorem seqIdx {i : Int} {n : Nat} (h0 : 0 ≤ i) (h1 : i < n) : seqIndex? i n = some i.toNat := by
  unfold seqIndex?
  have e : (if i < 0 then i + n else i) = i := by rw [if_neg (by omega)]
  simp only [e]
  rw [if_pos (by simp; omega)]
theorem atN {α : Type} {xs : List α} {i : Int} {v : α} (h0 : 0 ≤ i) (h : atI xs i = some v) : xs[i.toNat]? = some v := by
  obtain ⟨j, rfl⟩ : ∃ j : Nat, i = (j : Int) := ⟨i.toNat, by omega⟩
  unfold atI ixN at h
  rw [if_pos (by omega)] at h
  split at h
  · simpa using h
  · cases h
theorem mem_erase {α : Type} {xs : List α} {k : Nat} {y : α} (h : y ∈ xs.eraseIdx k) : y ∈ xs := List.mem_of_mem_eraseIdx h
/-- the i-th of a paired list -/
theorem prd_get {α β : Type} {F : α → β → Prop} : ∀ {xs : List α} {ys : List β} {i : Nat} {x : α}, Paired F xs ys → xs[i]? = some x → ∃ y, ys[i]? = some y ∧ F x y
  | _, _, _, _, .nil, h => by simp at h
  | _, _, 0, _, .cons r _, h => by
    simp at h
    subst h
    exact ⟨_, rfl, r⟩
  | _, _, i + 1, _, .cons _ t, h => by
    rw [List.getElem?_cons_succ] at h
    obtain ⟨y, h1, h2⟩ := prd_get t h
    exact ⟨y, by rw [List.getElem?_cons_succ]; exact h1, h2⟩
theorem prd_len {α β : Type} {F : α → β → Prop} : ∀ {xs : List α} {ys : List β}, Paired F xs ys → xs.length = ys.length
  | _, _, .nil => rfl
  | _, _, .cons _ t => congrArg (· + 1) (prd_len t)
theorem prd_imp {α β : Type} {F F' : α → β → Prop} (k : ∀ x y, F x y → F' x y) : ∀ {xs : List α} {ys : List β}, Paired F xs ys → Paired F' xs ys
  | _, _, .nil => .nil
  | _, _, .cons r t => .cons (k _ _ r) (prd_imp k t)
theorem prd_app {α β : Type} {F : α → β → Prop} : ∀ {xs xs' : List α} {ys ys' : List β}, Paired F xs ys → Paired F xs' ys' → Paired F (xs ++ xs') (ys ++ ys')
  | _, _, _, _, .nil, s => s
  | _, _, _, _, .cons r t, s => .cons r (prd_app t s)
theorem prd_take {α β : Type} {F : α → β → Prop} : ∀ {xs : List α} {ys : List β} (n : Nat), Paired F xs ys → Paired F (xs.take n) (ys.take n)
  | _, _, 0, _ => .nil
  | _, _, _ + 1, .nil => .nil
  | _, _, n + 1, .cons r t => .cons r (prd_take n t)
/-- each has a partner -/
theorem prd_ex {α β : Type} {F : α → β → Prop} : ∀ {xs : List α}, (∀ x ∈ xs, ∃ y, F x y) → ∃ ys, Paired F xs ys
  | [], _ => ⟨[], .nil⟩
  | x :: r, h => by
    obtain ⟨y, hy⟩ := h x List.mem_cons_self
    obtain ⟨ys, hs⟩ := prd_ex fun x hx => h x (List.mem_cons_of_mem _ hx)
    exact ⟨y :: ys, .cons hy hs⟩
theorem prd_mem {α β : Type} {F : α → β → Prop} {x : α} : ∀ {xs : List α} {ys : List β}, Paired F xs ys → x ∈ xs → ∃ y ∈ ys, F x y
  | _, _, .nil, h => nomatch h
  | _, _, .cons (b := b) r t, h => by
    rcases List.mem_cons.mp h with rfl | h
    · exact ⟨b, List.mem_cons_self, r⟩
    · obtain ⟨y, h1, h2⟩ := prd_mem t h
      exact ⟨y, List.mem_cons_of_mem _ h1, h2⟩
/-- a statement and what follows it, with a word J between them -/
def xCut (t u : TS) : TS := fun D σ H => ∃ J : L2.St → Hp → Prop, t { D with nx := J } σ H ∧ ∀ σ' H', J σ' H' → u D σ' H'
theorem xss_cut {X : Cx} {st : Stmt} {sts : List Stmt} {t u : TS} (h1 : PS X st t) (h2 : PSs X sts u) : PSs X (st :: sts) (xCut t u) := by
  refine ⟨fun pins s0 σ H D I h => ?_⟩
  obtain ⟨J, hj, hu⟩ := h
  refine wpAny_execs_cons (thn (h1.run pins s0 σ H { D with nx := J } I hj) fun fl s2 q => ?_)
  cases fl with
  | next =>
    obtain ⟨σ2, H2, I2, q2⟩ := q
    exact h2.run pins s2 σ2 H2 D I2 (hu σ2 H2 q2)
  | _ => exact q
section
variable {K : PySem.W.Frag} {a : Addr} {xs : List V} {σ : L2.St}
/-- [e for x in xs], by the turn -/
theorem lc_at {te : TE} {vs : List Nat} {i : Nat} {H1 : Hp} {L : Addr} {Qd : Hp → Prop} (Pv : Nat → Hp → Prop) (h0 : Pv 0 (upd H1 L (.lst []))) (hl : ∀ k H, Pv k H → SqL K H a xs)
    (hw : ∀ x, wipe ((wipe σ vs).set i (some x)) vs = wipe σ vs)
    (hs : ∀ k x H, xs[k]? = some x → Pv k H → te ((wipe σ vs).set i (some x)) H fun y H4 => ∃ acc, H4 L = some (.lst acc) ∧ acc.length < sizeLine ∧ Pv (k + 1) (upd H4 L (.lst (acc ++ [y])))) (hd : ∀ H, Pv xs.length H → Qd H) :
    ∃ W : Nat → Nat → Hp → Prop, (∃ m, W 0 m (upd H1 L (.lst []))) ∧ ∀ k m H, W k m H →
      ((Itl K a).stop k H ∧ Qd H) ∨ ((Itl K a).go k H ∧ ∃ Nx : Hp → Prop, (∀ H', Nx H' → ∃ m', m' < m ∧ W (k + 1) m' H') ∧ ∀ x H', (Itl K a).yld k H x H' → gName i x (wipe σ vs) H' fun σ2 H2 => wipe σ2 vs = wipe σ vs ∧ tYes σ2 H2 fun b H3 =>
        if b = true then te σ2 H3 fun y H4 => ∃ acc, H4 L = some (.lst acc) ∧ acc.length < sizeLine ∧ Nx (upd H4 L (.lst (acc ++ [y]))) else Nx H3) :=
  lc_list Pv h0 (fun k H _ p => hl _ H p) (fun k x H hx p => ⟨hw x, hs _ x H hx p⟩) hd
end
theorem take_snoc {α : Type} {xs : List α} {i : Nat} {x : α} (h : xs[i]? = some x) : xs.take (i + 1) = xs.take i ++ [x] := (take_pre h).2
theorem ff {A : Prop} (h : false = true) : A := nomatch h
theorem tt {A : Prop} (h : true = false) : A := nomatch h
/-! ### the same with the written part K said (within a comprehension the reading must not name its context) -/
section
variable {X : Cx} (K : PySem.W.Frag) {a b e o : Expr} {es : List Expr} {ta tb te to : TE} {t : TA} {pos : Pos} {tg : Expr}
theorem ix_k (h : X.K = K := by rfl) : IxR X (yIx K) := h ▸ ix_y
theorem cr_lenK (h : X.K = K := by rfl) : CallR X (.builtin "len") (yLen K) := h ▸ cr_len
theorem op_eqK (hu : X.A.units + 64 < cLine) (h : X.K = K := by rfl) : OpR X (compareOp .Eq) (yEq K) := h ▸ op_eqY hu
theorem op_neK (hu : X.A.units + 64 < cLine) (h : X.K = K := by rfl) : OpR X (compareOp .NotEq) (yNe K) := h ▸ op_neY hu
theorem xt_truK (ha : PE X a ta) (h : X.K = K := by rfl) (he : ∀ whole, isTrue a X.env whole = (do let v ← whole; standAt a.pos; holding [v] (truthy v)) := by intro _; rfl) : PT X a (xTru K ta) := h ▸ xt_tru ha he
theorem call_isK (h : X.K = K := by rfl) : CallR X (.builtin "isinstance") (rIsi K) := h ▸ call_isi
def yList (K : PySem.W.Frag) : List V → Hp → VK → Prop := fun xs H Q => ∃ p ys, xs = [.ref p] ∧ (SqL K H p ys ∨ SqT K H p ys) ∧ ∀ l, H l = none → Q (.ref l) (upd H l (.lst ys))
theorem call_listK (h : X.K = K := by rfl) : CallR X (.type "list") (yList K) := h ▸ call_list_of
def yTup (K : PySem.W.Frag) : List V → Hp → VK → Prop := fun xs H Q => ∃ p ys, xs = [.ref p] ∧ ((SqL K H p ys ∧ ∀ l, H l = none → Q (.ref l) (upd H l (.tup ys))) ∨ (SqT K H p ys ∧ Q (.ref p) H))
theorem call_tupleK (h : X.K = K := by rfl) : CallR X (.type "tuple") (yTup K) := h ▸ call_tuple_of
theorem cr_sumK (hc : X.calm = true) (h : X.K = K := by rfl) : CallR X (.builtin "sum") (rSum K) := h ▸ cr_sum hc
theorem sl_listK (h : X.K = K := by rfl) : SlR X (rSlL K) := h ▸ sl_list
theorem pi_listK (ha : PE X a ta) (h : X.K = K := by rfl) : PI X tg a (iList K ta) := h ▸ pi_list ha
theorem pi_tupK (ha : PE X a ta) (h : X.K = K := by rfl) : PI X tg a (iTup K ta) := h ▸ pi_tup ha
theorem pe_bmK {T id : String} {name : Str} {apos cpos : Pos} {r : V → List V → Hp → VK → Prop} (pa : PlainAttrs T) (slot : Slot T name id) (hty : typeOf (.builtin id) = pure (.type "method_descriptor")) (hm : MtR X id r) (ho : PE X o to) (ha : PA X (e :: es) t) (hK : X.K = K := by rfl)
    (hbase : attributeBase o name X.env (eval o X.env) = eval o X.env := by rfl)
    (hfew : ((backTo cpos (starEach (e :: es) X.env)).all (fun x => !x.1) && (backToKw cpos (keywordEach [] X.env)).all (fun x => x.1.isSome)
      && decide ((e :: es).length + ([] : List Keyword).length + (if ([] : List Keyword).isEmpty then 0 else 1) < 30)) = true := by rfl)
    (hline : (apos.endLine == cpos.line) = true := by rfl) (hs : starEach (e :: es) X.env = (false, eval e X.env) :: starEach es X.env := by rfl) (hplain : (backTo cpos (starEach es X.env)).any (·.1) = false := by rfl) :
    PE X (.Call (.Attribute o name apos) (e :: es) [] cpos) (tBM K T r to t) := hK ▸ pe_bm pa slot hty hm ho ha hbase hfew hline hs hplain
end
section
variable {X : Cx} {a b c o : Expr} {ta tb tc : TE} {pos : Pos}
/-- a op1 b op2 c, b asked once -/
def xChain (r r' : R2) (ta tb tc : TE) : TE := fun σ H Q => ta σ H fun x H1 => tb σ H1 fun y H2 => r x y H2 fun z H3 => match z with
  | .bl k => (k = true → tc σ H3 fun w' H4 => r' y w' H4 Q) ∧ (k = false → Q (.bl false) H3)
  | _ => False
theorem xe_chain {op op' : CmpOp} {r r' : R2} (ho : OpR X (compareOp op) r) (ho' : OpR X (compareOp op') r') (ha : PE X a ta) (hb : PE X b tb) (hc : PE X c tc)
    (hm : lastMarks [op, op'] [b, c] = false := by with_unfolding_all rfl) : PE X (.Compare a [op, op'] [b, c] pos) (xChain r r' ta tb tc) := by
  refine ⟨fun pins s0 σ H Q J h => ?_⟩
  refine Compare_chain (thn (ha.run pins s0 σ H _ J h) fun v s1 ⟨x, H1, J1, r1, q1⟩ => chain_link (thn (hb.run pins s1 σ H1 _ J1 q1) fun u s2 ⟨y, H2, J2, r2, q2⟩ =>
    thn (ho pins s2 σ H2 x y v u _ J2 r1 r2 q2) fun d s3 ⟨z, H3, J3, r3, q3⟩ => ?_)) hm
  cases z with
  | bl k =>
    cases r3
    refine wpAny_truthy_bool ?_
    cases k with
    | false => exact ite_ff ⟨.bl false, H3, J3, rfl, q3.2 rfl⟩
    | true => exact ite_tt (chain_last (thn (hc.run pins s3 σ H3 _ J3 (q3.1 rfl)) fun w' s4 ⟨z', H4, J4, r4, q4⟩ => ho' pins s4 σ H4 y z' u w' Q J4 r2 r4 q4))
  | _ => exact False.elim q3
theorem xt_chain {op op' : CmpOp} {r r' : R2} (ho : OpR X (compareOp op) r) (ho' : OpR X (compareOp op') r') (ha : PE X a ta) (hb : PE X b tb) (hc : PE X c tc)
    (hm : lastMarks [op, op'] [b, c] = false := by with_unfolding_all rfl) : PT X (.Compare a [op, op'] [b, c] pos) (xB (xChain r r' ta tb tc)) := by
  refine ⟨fun pins s0 σ H Q J h => ?_⟩
  refine isTrue_chain (thn (ha.run pins s0 σ H _ J h) fun v s1 ⟨x, H1, J1, r1, q1⟩ => test_link (thn (hb.run pins s1 σ H1 _ J1 q1) fun u s2 ⟨y, H2, J2, r2, q2⟩ =>
    thn (ho pins s2 σ H2 x y v u _ J2 r1 r2 q2) fun d s3 ⟨z, H3, J3, r3, q3⟩ => ?_)) hm
  cases z with
  | bl k =>
    cases r3
    refine wpAny_truthy_bool ?_
    cases k with
    | false => exact ite_ff ⟨H3, J3, q3.2 rfl⟩
    | true =>
      refine ite_tt (test_last (thn (hc.run pins s3 σ H3 _ J3 (q3.1 rfl)) fun w' s4 ⟨z', H4, J4, r4, q4⟩ => thn (ho' pins s4 σ H4 y z' u w' _ J4 r2 r4 q4) fun d' s5 ⟨z2, H5, J5, r5, q5⟩ => ?_))
      cases z2 with
      | bl k2 =>
        cases r5
        exact wpAny_truthy_bool ⟨H5, J5, q5⟩
      | _ => exact False.elim q5
  | _ => exact False.elim q3
/-- while: a word with its measure -/
def xWhile (c : TT) (tb : TS) : TS := fun D σ H => ∃ W : Nat → L2.St → Hp → Prop, (∃ m, W m σ H) ∧ ∀ m σ H, W m σ H → c σ H fun b H1 =>
  (b = true → tb { D with nx := fun σ' H' => ∃ m', m' < m ∧ W m' σ' H', ct := fun σ' H' => ∃ m', m' < m ∧ W m' σ' H', bk := D.nx } σ H1) ∧ (b = false → D.nx σ H1)
theorem xs_while {c : Expr} {body : List Stmt} {tc : TT} {tb : TS} (hp : PassesOwn (model X.prog X.w) X.A X.env X.xe) (hc : PT X c tc) (hb : PSs X body tb) : PS X (.While c body [] pos) (xWhile tc tb) := by
  refine ⟨fun pins s0 σ H D J h => ?_⟩
  obtain ⟨W, ⟨m0, w0⟩, turn⟩ := h
  refine wpAny_While (codeAny_whileLoop (fun n s' => ∃ σ' H', L2.Inv X pins σ' H' s' ∧ W n σ' H') ?_ m0 ⟨σ, H, J, w0⟩)
  rintro n s1 ⟨σ1, H1, J1, w1⟩
  refine wpAny_passesOwn hp (thn (hc.run pins s1 σ1 H1 _ J1 (turn n σ1 H1 w1)) fun k s2 ⟨H2, J2, q2⟩ => ?_)
  cases k with
  | true =>
    rw [if_pos rfl]
    refine wpAny_passesOwn hp (thn (hb.run pins s2 σ1 H2 _ J2 (q2.1 rfl)) fun f s3 q3 => ?_)
    cases f with
    | next =>
      obtain ⟨σ3, H3, J3, m', hm, w3⟩ := q3
      exact ⟨m', hm, σ3, H3, J3, w3⟩
    | cont =>
      obtain ⟨σ3, H3, J3, m', hm, w3⟩ := q3
      exact ⟨m', hm, σ3, H3, J3, w3⟩
    | brk => exact q3
    | ret v => exact q3
  | false =>
    rw [if_neg Bool.false_ne_true]
    exact wpAny_execs_nil ⟨σ1, H2, J2, q2.2 rfl⟩
/-- a comparison by an own method (__le__ ..) of two instances of C -/
def yOwn (C : Addr) (sp : Sp) (E : XK) : R2 := fun x y H Q => ∃ a b dx dy fs gs, x = .ref a ∧ y = .ref b ∧ H a = some (.ins C dx fs) ∧ H b = some (.ins C dy gs) ∧ sp [.ref a, .ref b] H Q E
theorem op_own {CX : CXT} {C f : Addr} {fd : FuncData} {ps : List Str} {sp : Sp} {E : XK} {op : CmpOp} {n : Nat} (hop : compareOp op = richCompare op) (F : FnOk X.prog X.w X.K X.mg X.base CX n f fd ps sp)
    (hs : PySem.W.findIn X.K (.ref C) (cmpInfo op).2.1 = some (some (.ref f))) (hf : PySem.W.isFn X.K (.ref f) = true) (hb : Binds X.K fd ps []) (hx : Passes CX X E) (hr : Room n X.A) : OpR X (compareOp op) (yOwn C sp E) := by
  intro pins s σ H x y u v Q I rx ry h
  obtain ⟨a, b, dx, dy, fs, gs, rfl, rfl, ha, hb', hsp⟩ := h
  cases rx
  cases ry
  rw [hop]
  obtain ⟨mA, J1, _⟩ := ins_get I.hok ha
  obtain ⟨mB, J2, _⟩ := ins_get I.hok hb'
  obtain ⟨od, J1, _⟩ := J1.look
  obtain ⟨od', J2, _⟩ := J2.look
  obtain ⟨m, hF⟩ := I.fr
  refine PySem.W.cmp_K (op := op) (tb := .ref C) hr.units0 hF I.ok.mod.kin J1 J2.type (by simp [PySem.W.notFirst]) hs hf ?_
  have hl := F.len _ _ _ _ hsp
  refine wpAny_mono (run_fn (us := [.ref a, .ref b]) (vs := [.ref a, .ref b]) (dvs := []) F hr hb .nil hx I (.cons rfl (.cons rfl .nil)) hsp) (fun v s' q => ?_) fun _ _ e => e
  obtain ⟨z, H', I', rz, q⟩ := q
  have fin : EP X pins σ Q v s' := ⟨z, H', I', rz, q⟩
  cases v <;> first | exact fin | (cases z <;> first | exact absurd (show _ = _ from rz) (by intro e; cases e) | (obtain ⟨_, e⟩ := rz; cases e))
variable (K : PySem.W.Frag)
theorem pe_fldK {f : Str} (ha : PE X a ta) (hb : attributeBase a f X.env (eval a X.env) = eval a X.env := by rfl) (h : X.K = K := by rfl) : PE X (.Attribute a f pos) (tFld K ta f) := h ▸ pe_fld ha hb
theorem in_seqK (h : X.K = K := by rfl) : OpR X (compareOp .In) (rIn K false) := h ▸ op_in_seq
theorem notin_seqK (h : X.K = K := by rfl) : OpR X (compareOp .NotIn) (rIn K true) := h ▸ op_notIn_seq
theorem mt_countK (h : X.K = K := by rfl) : MtR X "list.count" (rCntI K) := h ▸ mt_lcount
theorem cr_allK (hc : X.calm = true) (h : X.K = K := by rfl) : CallR X (.builtin "all") (rAll K) := h ▸ cr_all hc
theorem cr_anyK (hc : X.calm = true) (h : X.K = K := by rfl) : CallR X (.builtin "any") (rAny K) := h ▸ cr_any hc
end
theorem xe_glob {X : Cx} {x z : Str} {pos : Pos} (hg : Gl X x) (hm : ∃ t, X.mg x = some (.str z t)) (hd : (x == ("__debug__" : Str)) = false := by decide) : PE X (.Name x pos) (tC (.str z)) := by
  obtain ⟨t, hm⟩ := hm
  exact pe_glob hg hm ⟨_, rfl⟩ hd
theorem xe_globI {X : Cx} {x : Str} {z : Int} {pos : Pos} (hg : Gl X x) (hm : ∃ t, X.mg x = some (.int z t)) (hd : (x == ("__debug__" : Str)) = false := by decide) : PE X (.Name x pos) (tC (.int z)) := by
  obtain ⟨t, hm⟩ := hm
  exact pe_glob hg hm ⟨_, rfl⟩ hd
theorem prd_unsnoc {α β : Type} {F : α → β → Prop} {x : α} : ∀ {xs : List α} {ys : List β}, Paired F (xs ++ [x]) ys → ∃ ys' y, ys = ys' ++ [y] ∧ Paired F xs ys' ∧ F x y
  | [], _, .cons r .nil => ⟨[], _, rfl, .nil, r⟩
  | _ :: xs, _, .cons (b := b) r t => by
    obtain ⟨ys', y, rfl, h1, h2⟩ := prd_unsnoc (xs := xs) t
    exact ⟨b :: ys', y, rfl, .cons r h1, h2⟩
theorem nil_or_snoc {α : Type} (xs : List α) : xs = [] ∨ ∃ ys y, xs = ys ++ [y] := by
  rcases List.eq_nil_or_concat xs with h | ⟨ys, y, h⟩
  · exact .inl h
  · exact .inr ⟨ys, y, by simpa using h⟩
theorem pg_tupK {X : Cx} (K : PySem.W.Frag) (n : Nat) {es : List Expr} {k : Nat} {pos : Pos} {t : TGs} (h : PGs X es t) (hc : X.calm = true := by rfl) (hK : X.K = K := by rfl)
    (hn : (assignEach es X.env).length = n := by rfl) (hst : (assignEach es X.env).findIdx? (·.1) = none := by rfl) : PG X (.Tuple es k pos) (gTup K n t) := hK ▸ pg_tup hc h hn hst
theorem perm_erase {α : Type} : ∀ {xs : List α} {i : Nat} {x : α}, xs[i]? = some x → (x :: xs.eraseIdx i).Perm xs
  | [], _, _, h => by simp at h
  | y :: r, 0, x, h => by
    simp at h
    subst h
    exact List.Perm.refl _
  | y :: r, i + 1, x, h => by
    rw [List.getElem?_cons_succ] at h
    exact (List.Perm.swap _ _ _).trans (List.Perm.cons _ (perm_erase h))
theorem Sep.new2 {G H : Hp} {M : List (Addr × HO)} {x dx : Addr} {o u : HO} (S : Sep G M H) (h1 : H x = Option.none) (h2 : H dx = Option.none) (ne : dx ≠ x) : Sep G ((x, o) :: (dx, u) :: M) (upd (upd H dx u) x o) :=
  (S.new h2).new (by rw [upd_ne (Ne.symm ne)]; exact h1)
end XL
set_option Elab.async false
set_option linter.all false
set_option maxRecDepth 100000
set_option maxHeartbeats 4000000
/-! XIter: enumerate of a tuple. -/
namespace XL
open PySem PySem.Spec PyProof.Rows L2
theorem meets_enum1 {v : Value} {o : Obj} {Hq : Heap → Prop} (B : Begins v o Hq) :
    Meets (Builtin.«enumerate.__new__» ⟨[.type "enumerate", v], []⟩) (fun _ R s => Hq s.heap ∧
      R (.ok (.ret (.ref (s.heap.push o).objs.size))) { s with heap := (s.heap.push o).push { cls := .type "enumerate", data := .fields #[.none, .bool false, .ref s.heap.objs.size, rawInt 0, .none, .none] } }) :=
  .of_wp fun prog w A R s z => by
    obtain ⟨hp, g, d, tk, os⟩ := s
    obtain ⟨z1, z2⟩ := z
    have hsub := sub_enumerate
    have begin1 : ∀ {A' : Around} {E : Value → Shared → Prop} {Q : Value → Shared → Prop}, Q (.ref hp.objs.size) ⟨hp.push o, g, d, tk, os⟩ → wpAny (model prog w) A' (pyIter v) Q E ⟨hp, g, d, tk, os⟩ := fun q => B.iter prog w _ _ ⟨hp, g, d, tk, os⟩ _ z1 q
    wp_walk using begin1
    refine wpAny_stack_any fun st => wpAny_pure ?_
    split
    · rename_i c _ _ _ _ _
      cases (c == Value.type "enumerate") <;> (wp_walk using begin1; exact ⟨_, rfl, z2⟩)
    · wp_walk using begin1
      exact ⟨_, rfl, z2⟩
theorem call_enum1 {prog : Program} {w : World} {A : Around} {E : Value → Shared → Prop} {s : Shared} {v : Value} {o : Obj} {Hq : Heap → Prop} {Q : Value → Shared → Prop} (B : Begins v o Hq) (h1 : Hq s.heap)
    (k : ∀ h', IsEnum h' (s.heap.objs.size + 1) s.heap.objs.size 0 .none → h'.get? s.heap.objs.size = some o → (∀ b o, s.heap.get? b = some o → h'.get? b = some o) → Q (.ref (s.heap.objs.size + 1)) { s with heap := h' }) :
    wpAny (model prog w) A (call (.type "enumerate") [v]) Q E s := by
  refine callType_new F.called_enumerate (by decide) (F.typeCall_enumerate_1 _) (F.newCall_enumerate_1 _) (fun ob => F.args_object_init_2 ob _) F.entry_enumerate_new (meets_enum1 B) ⟨h1, ?_⟩
  have hz : (s.heap.push o).objs.size = s.heap.objs.size + 1 := Heap.size_push ..
  show _ ∧ _
  rw [hz]
  have he : IsEnum ((s.heap.push o).push { cls := .type "enumerate", data := .fields #[.none, .bool false, .ref s.heap.objs.size, rawInt 0, .none, .none] }) (s.heap.objs.size + 1) s.heap.objs.size 0 .none := by
    have z := Heap.get?_push_size (s.heap.push o) (o := { cls := .type "enumerate", data := .fields #[.none, .bool false, .ref s.heap.objs.size, rawInt 0, .none, .none] }) rfl
    rw [hz] at z
    exact z
  exact ⟨⟨_, he, rfl⟩, k _ he (Heap.get?_push_of_some _ (Heap.get?_push_size _ B.free)) fun b o x => Heap.get?_push_of_some _ (Heap.get?_push_of_some _ x)⟩
/-- the tuple at a, each item in a new pair -/
def IteT (K : PySem.W.Frag) (a : Addr) : It :=
  ⟨fun i H => ∃ (xs : List V) (x : V), SqT K H a xs ∧ xs[i]? = some x, fun i H v H' => ∃ T x, v = .ref T ∧ H T = none ∧ H' = upd H T (.tup [.int (i : Nat), x]) ∧ ∀ xs, SqT K H a xs → xs[i]? = some x, fun i H => ∃ xs : List V, SqT K H a xs ∧ xs.length ≤ i⟩
theorem turn_enumT {P : Program} {w : World} {K : PySem.W.Frag} {elts : List Expr} {kk : Nat} {tpos : Pos} (a e it : Addr) (hai : a ≠ it) (hae : a ≠ e) :
    Turn P w K (.Tuple elts kk tpos) (IteT K a) [e, it] e (fun i h => (∃ old, IsEnum h e it ((i : Nat) : Int) old) ∧ h.IsTupleIter it a i ∧ e ≠ it) where
  mem := by simp
  obj := fun i h st b hb => by
    obtain ⟨⟨old, he⟩, ⟨o, ho, hc, hd⟩, _⟩ := st
    have q : b = e ∨ b = it := by simpa using hb
    rcases q with z | z
    · rw [z]; exact ⟨_, he, fun v q => nomatch q⟩
    · rw [z]; exact ⟨o, ho, fun v q => by rw [hd] at q; cases q⟩
  keep := fun i h h' st k => let ⟨⟨old, he⟩, hi, hne⟩ := st; ⟨⟨old, k e (by simp) _ he⟩, hi.at fun o q => k it (by simp) o q, hne⟩
  item := by
    intro X hP hw hK hc i pins s σ H E I hf st hg
    subst hP hw hK
    obtain ⟨⟨old, he⟩, hit, hne⟩ := st
    obtain ⟨xs, x, hq, hx⟩ := hg
    obtain ⟨its, rv, p, hz⟩ := I.tuple hq
    obtain ⟨u, hu, ru⟩ := rv.get hx
    have hel : e < s.heap.objs.size := Heap.lt_size he
    have hil : it < s.heap.objs.size := by obtain ⟨_, q, _⟩ := hit; exact Heap.lt_size q
    have hlen : i < its.toArray.size := by
      have z := (List.getElem?_eq_some_iff.mp hu).1
      simpa using z
    refine wpAny_pyNext_enum_itemC (c := ((i : Nat) : Int)) (Draws.tuple (A := X.A.in1) (I.ok.hd hc) it a hai its.toArray) he ⟨hit, p⟩ hlen hne (by simp; exact ⟨hne, fun z => hae z.symm⟩) fun y h' tk hy ho st' hT hsz hk => ?_
    have ey : y = u := by
      have z : its[i]? = some y := by simpa using hy
      rw [hu] at z
      exact (Option.some.inj z).symm
    subst ey
    refine ⟨_, rfl, wpAny_letOwnedTupleGo_enum (s := { s with heap := h', toks := tk + 1 }) ho fun h'' he' sb => ?_⟩
    have hT2 : h''.get? s.heap.objs.size = some { cls := .type "tuple", data := .seq #[.int i tk, y] } := (sb.2 _ (Nat.ne_of_gt hel)).trans hT
    have new : ObjOk X.prog X.w (upd H s.heap.objs.size (.tup [.int (i : Nat), x])) h'' s.heap.objs.size (.tup [.int (i : Nat), x]) :=
      ⟨by show 2 ≤ sizeLine; decide, [.int i tk, y], .cons ⟨_, rfl⟩ (.cons ru .nil), ⟨_, hT2, rfl, _, rfl⟩⟩
    have I1 : L2.Inv X pins σ (upd H s.heap.objs.size (.tup [.int (i : Nat), x])) { s with heap := h'', toks := tk + 1 } :=
      I.turnedNew (ch := [e, it]) (fun b ob hb q => (sb.2 b (fun z => hb (by simp [z]))).trans (hk b ob (fun z => hb (by simp [z])) (fun z => hb (by simp [z])) q)) hf (Nat.le_refl _) new
    refine ⟨.ref s.heap.objs.size, _, I1, rfl, ⟨_, x, rfl, I.hok.fresh (Nat.le_refl _), rfl, fun ys hy => by rw [I.tuple_inj hy hq]; exact hx⟩, ⟨⟨y, ?_⟩, st'.1.at fun o q => (sb.2 it (Ne.symm hne)).trans q, hne⟩, fun b hb => ?_⟩
    · have e1 : ((i + 1 : Nat) : Int) = (i : Int) + 1 := by omega
      rw [e1]; exact he'
    · have hb2 : b < s.heap.objs.size := by
        have q : b = e ∨ b = it := by simpa using hb
        rcases q with z | z
        · rw [z]; exact hel
        · rw [z]; exact hil
      rw [upd_ne (Nat.ne_of_lt hb2)]
      exact (hf b hb).1
  done := by
    intro X hP hw hK hc i pins s σ H E I hf st hg
    subst hP hw hK
    obtain ⟨⟨old, he⟩, hit, hne⟩ := st
    obtain ⟨xs, hq, hx⟩ := hg
    obtain ⟨its, rv, p, hz⟩ := I.tuple hq
    obtain ⟨f0, f1, f2, f3, f4, f5⟩ := hf it (by simp)
    have hl := rv.length
    have D := Draws.tuple (prog := X.prog) (w := X.w) (A := X.A.in1) (I.ok.hd hc) it a hai its.toArray
    by_cases hi : i = its.toArray.size
    · subst hi
      exact wpAny_pyNext_enum_endD D he ⟨hit, p⟩ fun h' eb => ⟨rfl, I.turned (t' := s.toks) (fun b o hb q => eb b o hb q) f0 f1 f3 f4 f5⟩
    · have D2 : Draws X.prog X.w X.A.in1 it [it, a] i (fun _ _ => False) (fun j h => (j = i ∨ False) ∧ h.IsTupleIter it a i ∧ h.IsTuple a its.toArray) := {
        live := fun _ _ st => let ⟨o, ho, _⟩ := st.2.1; ⟨o, ho⟩
        frame := fun _ _ _ st hk => ⟨st.1, st.2.1.at fun o e => hk it (by simp) o e, st.2.2.at fun o e => hk a (by simp) o e⟩
        item := fun j s Q E hj st hQ => by
          rcases st.1 with z | z
          · omega
          · exact z.elim
        done := fun s Q E st hE => wpAny_nextOf_tuple_end (I.ok.hd hc) st.2.1 st.2.2 (by
          simp only [List.getElem?_toArray]
          exact List.getElem?_eq_none_iff.mpr (by omega)) hE }
      exact wpAny_pyNext_enum_endD D2 he ⟨.inl rfl, hit, p⟩ fun h' eb => ⟨rfl, I.turned (t' := s.toks) (fun b o hb q => eb b o hb q) f0 f1 f3 f4 f5⟩
  self := fun A i s Q E st h => let ⟨⟨_, he⟩, _⟩ := st; wpAny_pyIter_enum he h
def iEnumT (K : PySem.W.Frag) (ta : TA) : TI := fun σ H R => ta σ H fun vs H1 => ∃ a xs, vs = [.ref a] ∧ SqT K H1 a xs ∧ R (IteT K a) H1
theorem pi_enumT {X : Cx} {e : Expr} {ta : TA} {p pos tpos : Pos} {elts : List Expr} {kk : Nat} (hg : Gl X "enumerate") (hm : X.mg "enumerate" = none) (ha : PA X [e] ta) (hs : starEach [e] X.env = [(false, eval e X.env)] := by rfl) :
    PI X (.Tuple elts kk tpos) (.Call (.Name "enumerate" p) [e] [] pos) (iEnumT X.K ta) := by
  refine ⟨fun pins s σ H R I h => ?_⟩
  refine Call_ (ld_blt I hg hm boot_enumerate (PyProof.Rows.callWith_type1 (thn (ha.run pos pins s σ H _ I h) fun us s1 ⟨vs, H1, I1, r1, q1⟩ => ?_) hs rfl))
  obtain ⟨a, xs, ex, hq, q⟩ := q1
  subst ex
  cases r1 with
  | cons r rr =>
    cases rr
    cases r
    obtain ⟨its, rv, p', hz⟩ := I1.tuple hq
    have hal : a < s1.heap.objs.size := by obtain ⟨o, ho, _⟩ := p'; exact Heap.lt_size ho
    refine call_enum1 (begins_tuple a its.toArray) p' fun h' he hit hk => wpAny_pyIter_enum he ?_
    have I2 : L2.Inv X pins σ H1 { s1 with heap := h' } := I1.kept (t' := s1.toks) hk
    refine ⟨s1.heap.objs.size + 1, [s1.heap.objs.size + 1, s1.heap.objs.size], _, _, H1, rfl, I2, turn_enumT a (s1.heap.objs.size + 1) s1.heap.objs.size (Nat.ne_of_lt hal) (Nat.ne_of_lt (Nat.lt_succ_of_lt hal)), ⟨⟨.none, he⟩, ⟨_, hit, rfl, rfl⟩, Nat.succ_ne_self _⟩, fun b hb => ?_, q⟩
    have q' : b = s1.heap.objs.size + 1 ∨ b = s1.heap.objs.size := by simpa using hb
    have hle : s1.heap.objs.size ≤ b := by
      rcases q' with z | z
      · rw [z]; exact Nat.le_add_right _ _
      · rw [z]; exact Nat.le_refl _
    exact I1.fpOk hle (I1.hok.fresh hle)
theorem for_enumT {K : PySem.W.Frag} {a : Addr} {xs : List V} {tb : TS} {D : Ends} {σ : L2.St} {H : Hp} {i j : Nat} (Pv : Nat → L2.St → Hp → Prop) (h0 : Pv 0 σ H) (hl : ∀ k σ H, Pv k σ H → SqT K H a xs)
    (hs : ∀ k x σ H T, xs[k]? = some x → Pv k σ H → H T = none →
      tb { D with nx := Pv (k + 1), ct := Pv (k + 1), bk := D.nx } ((σ.set i (some (.int (k : Nat)))).set j (some x)) (upd H T (.tup [.int (k : Nat), x]))) (hd : ∀ σ H, Pv xs.length σ H → D.nx σ H) :
    ∃ W : Nat → Nat → L2.St → Hp → Prop, (∃ m, W 0 m σ H) ∧ ∀ k m σ H, W k m σ H →
      ((IteT K a).stop k H ∧ D.nx σ H) ∨ ((IteT K a).go k H ∧ ∃ N : L2.St → Hp → Prop, (∀ σ' H', N σ' H' → ∃ m', m' < m ∧ W (k + 1) m' σ' H') ∧ ∀ x H', (IteT K a).yld k H x H' →
        (gTup K 2 (gCons (gName i) (gCons (gName j) gNil))) x σ H' fun σ2 H2 => tb { D with nx := N, ct := N, bk := D.nx } σ2 H2) := by
  refine ⟨fun k m σ H => m = xs.length - k ∧ k ≤ xs.length ∧ Pv k σ H, ⟨xs.length, by simp, Nat.zero_le _, h0⟩, ?_⟩
  rintro k m σ H ⟨rfl, hk, p⟩
  have q := hl _ σ H p
  by_cases hlt : k < xs.length
  · refine .inr ⟨⟨xs, xs[k], q, by simp [hlt]⟩, Pv (k + 1), fun σ' H' p' => ⟨xs.length - (k + 1), by omega, rfl, hlt, p'⟩, fun v H' y => ?_⟩
    obtain ⟨T, x, rfl, nT, rfl, hx⟩ := y
    refine ⟨T, _, rfl, SqT.of upd_same, rfl, _, _, rfl, _, _, rfl, rfl, ?_⟩
    exact hs k x σ H T (hx xs q) p nT
  · have e : k = xs.length := by omega
    subst e
    exact .inl ⟨⟨xs, q, Nat.le_refl _⟩, hd σ H p⟩
end XL
set_option Elab.async false
set_option linter.all false
set_option maxRecDepth 100000
set_option maxHeartbeats 4000000
/-! XDeep: x in t, t.index(x), items data of any depth, t a list or a tuple. -/
namespace XL
open PySem PySem.Spec PyProof.Rows L2
section
variable {X : Cx} (K : PySem.W.Frag)
def rInX (K : PySem.W.Frag) (neg : Bool) : R2 := fun x y H Q => ∃ d ds, Dp K H x d ∧ (Dp K H y (.list ds) ∨ Dp K H y (.tuple ds)) ∧ SeqAt.shaped d = true ∧ PyData.canLayAll0 ds = true ∧ Q (.bl (if neg then !(ds.any fun z => PyData.eqv z d) else ds.any fun z => PyData.eqv z d)) H
theorem in_deepK (hu : X.A.units + 65 < cLine) (h : X.K = K := by rfl) : OpR X (compareOp .In) (rInX K false) := by
  subst h
  intro pins s σ H x y v u Q I rx ry h
  obtain ⟨d, ds, hd, he, sd, se, q⟩ := h
  obtain ⟨as, r1⟩ := Dp.reads I d x v hd rx
  rcases he with he | he
  · obtain ⟨bs, r2⟩ := Dp.reads I (.list ds) y u he ry
    exact SeqAt.in_list_reads r2 r1 se (SeqAt.canLay_of_shaped sd) (room_in_shaped sd hu) ⟨.bl _, H, I, rfl, q⟩
  · obtain ⟨bs, r2⟩ := Dp.reads I (.tuple ds) y u he ry
    exact SeqAt.in_tuple_reads r2 r1 se (SeqAt.canLay_of_shaped sd) (room_in_shaped sd hu) ⟨.bl _, H, I, rfl, q⟩
theorem notin_deepK (hu : X.A.units + 65 < cLine) (h : X.K = K := by rfl) : OpR X (compareOp .NotIn) (rInX K true) := by
  subst h
  intro pins s σ H x y v u Q I rx ry h
  obtain ⟨d, ds, hd, he, sd, se, q⟩ := h
  obtain ⟨as, r1⟩ := Dp.reads I d x v hd rx
  rcases he with he | he
  · obtain ⟨bs, r2⟩ := Dp.reads I (.list ds) y u he ry
    exact SeqAt.notIn_list_reads r2 r1 se (SeqAt.canLay_of_shaped sd) (room_in_shaped sd hu) ⟨.bl _, H, I, rfl, q⟩
  · obtain ⟨bs, r2⟩ := Dp.reads I (.tuple ds) y u he ry
    exact SeqAt.notIn_tuple_reads r2 r1 se (SeqAt.canLay_of_shaped sd) (room_in_shaped sd hu) ⟨.bl _, H, I, rfl, q⟩
/-- t.index(x), t a tuple: the first place of an equal one -/
def rIndexT (K : PySem.W.Frag) : V → List V → Hp → VK → Prop := fun x xs H Q => ∃ (a : Addr) (y : V) (d : PyData) (ds : List PyData) (j : Nat) (z : PyData), x = V.ref a ∧ xs = [y] ∧ Dp K H (V.ref a) (.tuple ds) ∧ Dp K H y d ∧
  PyData.canLayAll0 ds = true ∧ SeqAt.shaped d = true ∧ ds[j]? = some z ∧ PyData.eqv z d = true ∧ (∀ (m : Nat) (z' : PyData), m < j → ds[m]? = some z' → PyData.eqv z' d = false) ∧ Q (.int (j : Nat)) H
theorem mt_tindexK (hu : X.A.units + 65 < cLine) (h : X.K = K := by rfl) : MtR X "tuple.index" (rIndexT K) := by
  subst h
  intro pins s σ H x xs v us Q I rx rxs h
  obtain ⟨a, y, d, ds, j, z, rfl, rfl, hl, hy, hxs, sd, hz, hzj, hno, q⟩ := h
  cases rx
  cases rxs with
  | cons ry rt =>
    rename_i uy ut
    cases rt
    obtain ⟨bs, r1⟩ := Dp.reads I d y uy hy ry
    have hroom : X.A.units + 1 + min (PyData.depthAll ds) d.depth < cLine := room_in_shaped sd hu
    cases hl with
    | tup hs ha =>
      obtain ⟨its, rv, ⟨⟨cls, dd, data, sls⟩, ho, hc, n, hdt⟩, hlen⟩ := I.tuple hs
      simp only at hc hdt
      subst hc hdt
      obtain ⟨as, h4⟩ := Dp.readsAll I ds _ its ha rv
      have hn : its.length = ds.length := SeqAt.ReadsAll.length ds its as h4
      have hmap : its.map (SeqAt.readOf s.heap) = ds := SeqAt.readsAll_map ds its as hxs h4
      have hvl := rv.length
      obtain ⟨hjd, _⟩ := List.getElem?_eq_some_iff.mp hz
      have hjl : j < its.length := by omega
      have hj : j < its.toArray.size := by simpa using hjl
      have at_ : ∀ (m : Nat) (hm : m < its.toArray.size) (z' : PyData), ds[m]? = some z' → SeqAt.readOf s.heap its.toArray[m] = z' := by
        intro m hm z' hz'
        have hml : m < its.length := by simpa using hm
        rw [← hmap, List.getElem?_map, List.getElem?_eq_getElem hml] at hz'
        have e1 : SeqAt.readOf s.heap its[m] = z' := Option.some.inj (show some (SeqAt.readOf s.heap its[m]) = some z' from hz')
        simpa using e1
      refine call_meets PySem.F.slot_tuple_index ⟨_, ho, rfl⟩ PySem.F.entry_tuple_index (PySem.F.args_tuple_index_2 _ _)
        (TI.tuple_indexAt a its.toArray n dd sls uy (fun u => PyData.eqv (SeqAt.readOf s.heap u) d) j hj ?_ ?_) ⟨ho, SeqAt.items_eqAt (vs := its.toArray) (show ReadsAll s.heap its.toArray.toList ds as from h4) r1 hxs (SeqAt.canLay_of_shaped sd) hroom, ?_⟩
      · show PyData.eqv (SeqAt.readOf s.heap its.toArray[j]) d = true
        rw [at_ j hj z hz]
        exact hzj
      · intro m hm hmj
        have hmd : m < ds.length := by omega
        have hz' : ds[m]? = some ds[m] := List.getElem?_eq_getElem hmd
        show PyData.eqv (SeqAt.readOf s.heap its.toArray[m]) d = false
        rw [at_ m hm _ hz']
        exact hno m _ hmj hz'
      · exact ⟨.int (j : Nat), H, I.tok _, ⟨_, rfl⟩, q⟩
end
theorem u65 {k : Nat} {A : Around} (r : Room k A) : A.units + 65 < cLine := by have := r.un; omega
/-- xs[::-1] of a list -/
def tRev (K : PySem.W.Frag) (te : TE) : TE := fun σ H Q => te σ H fun x H1 => ∃ a xs, x = .ref a ∧ SqL K H1 a xs ∧ ∀ p, H1 p = none → Q (.ref p) (upd H1 p (.lst xs.reverse))
theorem pe_rev {X : Cx} {e m : Expr} {te : TE} {p2 pos : Pos} (he : PE X e te) (hm : PE X m (tC (.int (-1)))) : PE X (.Subscript e (.Slice none none (some m) p2) pos) (tRev X.K te) := by
  refine ⟨fun pins s σ H Q I h => ?_⟩
  refine Subscript_ (thn (he.run pins s σ H _ I h) fun v s1 ⟨x, H1, I1, r1, q1⟩ => ?_)
  refine wpAny_Slice (wpAny_evalPart_none (wpAny_evalPart_none (wpAny_evalPart_some (thn (hm.run pins s1 σ H1 (fun y H2 => y = .int (-1) ∧ H2 = H1) I1 ⟨rfl, rfl⟩) fun vm s3 ⟨y, H3, I3, r3, ey, eH⟩ => ?_))))
  subst ey eH
  obtain ⟨t, rfl⟩ := r3
  obtain ⟨a, xs, rfl, hx, q⟩ := q1
  cases r1
  have I4 : L2.Inv X pins σ H3 { s3 with heap := s3.heap.push { cls := .type "slice", data := .fields #[.none, .none, .int (-1) t] } } := I3.kept (t' := s3.toks) fun b ob q => Heap.get?_push_of_some _ q
  obtain ⟨its, r, ht, hz⟩ := I4.list hx
  have hlen := r.length
  show wpAny (model X.prog X.w) X.A (subscriptTail e (.Slice none none (some m) p2) (.ref a) (.ref s3.heap.objs.size)) (EP X pins σ Q) X.xe { s3 with heap := s3.heap.push { cls := .type "slice", data := .fields #[.none, .none, .int (-1) t] } }
  refine tail_any (ops := [.ref a, .ref s3.heap.objs.size]) ht.isList.typeIs slot_list_getitem.lookup ?_ (by with_unfolding_all rfl)
  refine wpAny_getItem_list_slice ht.isList (Heap.IsSliceOf.new ..) .none .none (.int (-1) t) (by decide) ?_ (by rw [List.size_toArray] <;> omega)
  rw [PySem.W.krv_pick]
  refine ⟨.ref _, _, I4.laid (t' := s3.toks) (o := .lst xs.reverse) (fun b ob q => Heap.get?_push_of_some _ q) (Nat.le_refl _) ?_, rfl, q _ (I4.hok.fresh (Nat.le_refl _))⟩
  exact ⟨by rw [List.length_reverse]; exact hz, _, 0, r.reverse, Heap.get?_push_size _ rfl⟩
theorem pe_revK {X : Cx} {e m : Expr} {te : TE} {p2 pos : Pos} (K : PySem.W.Frag) (he : PE X e te) (hm : PE X m (tC (.int (-1)))) (h : X.K = K := by rfl) : PE X (.Subscript e (.Slice none none (some m) p2) pos) (tRev K te) := h ▸ pe_rev he hm
theorem tst {b : Bool} {A B : Prop} (h1 : b = true → A) (h0 : b = false → B) : if b = true then A else B := by
  cases b
  · exact h0 rfl
  · exact h1 rfl
theorem sl_tupAK {X : Cx} (K : PySem.W.Frag) (h : X.K = K := by rfl) : SlR X (rSlA K) := h ▸ sl_tupA
/-! ### tuples whose object has no dict (so that their methods are reached) -/
def TupF (G : Hp) (a : Addr) (xs : List V) : Prop := ∃ o : Obj, o.dict = none ∧ G a = some (.frz o (.tup xs))
def Tu (G : Hp) (a : Addr) (xs : List V) : Prop := G a = some (.tup xs) ∨ TupF G a xs
theorem TupF.same {G G' : Hp} {a : Addr} {xs : List V} (e : Same G G') (h : TupF G a xs) : TupF G' a xs := let ⟨o, h1, h2⟩ := h; ⟨o, h1, e _ _ h2⟩
theorem Tu.same {G G' : Hp} {a : Addr} {xs : List V} (e : Same G G') (h : Tu G a xs) : Tu G' a xs := by
  rcases h with h | h
  · exact .inl (e _ _ h)
  · exact .inr (h.same e)
theorem Tu.sq {K : PySem.W.Frag} {H : Hp} {a : Addr} {xs : List V} (h : Tu H a xs) : SqT K H a xs := by
  rcases h with h | ⟨o, _, h⟩
  · exact .inl (.inl h)
  · exact .inl (.inr ⟨o, h⟩)
theorem Tu.ty {K : PySem.W.Frag} {H : Hp} {a : Addr} {xs : List V} (h : Tu H a xs) : TyX K H (.ref a) (.type "tuple") := by
  rcases h with h | ⟨o, _, h⟩
  · exact .base (.tup h)
  · exact .fTuple h
theorem TupF.tu {G : Hp} {a : Addr} {xs : List V} (h : TupF G a xs) : Tu G a xs := .inr h
section
variable {X : Cx} (K : PySem.W.Frag)
/-- tuple(xs) -/
def yTupF (K : PySem.W.Frag) : List V → Hp → VK → Prop := fun xs H Q => ∃ p ys, xs = [.ref p] ∧ ((SqL K H p ys ∧ ∀ l o, H l = none → o.dict = none → Q (.ref l) (upd H l (.frz o (.tup ys)))) ∨ (SqT K H p ys ∧ Q (.ref p) H))
theorem call_tupleFK (h : X.K = K := by rfl) : CallR X (.type "tuple") (yTupF K) := by
  subst h
  intro pins s σ H xs us Q I r h
  obtain ⟨p, ys, rfl, h⟩ := h
  obtain ⟨u, rfl, rx⟩ := vals1 r
  cases rx
  rcases h with ⟨hq, q⟩ | ⟨hq, q⟩
  · obtain ⟨its, r', pl, hz⟩ := I.list hq
    have hlen := r'.length
    refine call_tuple_list pl.isList (fun h' kp => ?_) (by simp only [List.size_toArray] <;> omega)
    have I1 : L2.Inv X pins σ H { s with heap := h' } := I.kept (t' := s.toks) kp
    have I2 : L2.Inv X pins σ (upd H h'.objs.size (.frz { cls := .type "tuple", data := .seq its.toArray } (.tup ys))) { s with heap := h'.push { cls := .type "tuple", data := .seq its.toArray } } :=
      I1.laid (t' := s.toks) (fun b o e => Heap.get?_push_of_some _ e) (Nat.le_refl _) (show ObjOk X.prog X.w _ _ _ (.frz { cls := .type "tuple", data := .seq its.toArray } (.tup ys)) from ⟨Heap.get?_push_size _ rfl, hz, its, r', IsTup.new _ _⟩)
    exact ⟨.ref h'.objs.size, _, I2, rfl, q _ _ (I1.hok.fresh (Nat.le_refl _)) rfl⟩
  · obtain ⟨its, r', pl, hz⟩ := I.tuple hq
    exact call_tuple_same pl ⟨.ref p, H, I, rfl, q⟩
/-- t.m(e, ..), t a tuple -/
def tTM (r : V → List V → Hp → VK → Prop) (to : TE) (t : TA) : TE := fun σ H Q => to σ H fun x H1 => (∃ a xs, x = .ref a ∧ TupF H1 a xs) ∧ t σ H1 fun vs H2 => r x vs H2 Q
theorem pe_tm {o e : Expr} {es : List Expr} {to : TE} {t : TA} {id : String} {name : Str} {apos cpos : Pos} {r : V → List V → Hp → VK → Prop} (slot : Slot "tuple" name id) (hty : typeOf (.builtin id) = pure (.type "method_descriptor")) (hm : MtR X id r) (ho : PE X o to) (ha : PA X (e :: es) t)
    (hbase : attributeBase o name X.env (eval o X.env) = eval o X.env := by rfl)
    (hfew : ((backTo cpos (starEach (e :: es) X.env)).all (fun x => !x.1) && (backToKw cpos (keywordEach [] X.env)).all (fun x => x.1.isSome)
      && decide ((e :: es).length + ([] : List Keyword).length + (if ([] : List Keyword).isEmpty then 0 else 1) < 30)) = true := by rfl)
    (hline : (apos.endLine == cpos.line) = true := by rfl) (hs : starEach (e :: es) X.env = (false, eval e X.env) :: starEach es X.env := by rfl) (hplain : (backTo cpos (starEach es X.env)).any (·.1) = false := by rfl) :
    PE X (.Call (.Attribute o name apos) (e :: es) [] cpos) (tTM r to t) := by
  refine ⟨fun pins s σ H Q I h => ?_⟩
  refine wpAny_Call_method_late hbase hfew hline rfl (thn (ho.run pins s σ H _ I h) fun v s1 ⟨x, H1, I1, r1, ty, q1⟩ => ?_)
  obtain ⟨a, xs, rfl, ob, hd, ha'⟩ := ty
  cases r1
  obtain ⟨h1, _, _, _, h2⟩ := I1.hok _ _ ha'
  refine ⟨"tuple", id, PySem.F.plainAttrs_tuple, slot, hty, ⟨ob, h1, ?_⟩, fun b e => ?_, ?_⟩
  · obtain ⟨ob', e1, e2, _⟩ := h2
    rw [h1] at e1
    rw [Option.some.inj e1]
    exact e2
  · cases e
    exact ⟨ob, h1, hd⟩
  have hA := ha.run cpos pins s1 σ H1 _ I1 q1
  rw [hs] at hA ⊢
  refine Calls.callWith_builtin (by show (false || (backTo cpos (starEach es X.env)).any (·.1)) = false; rw [hplain] <;> rfl) (Calls.evalArgs_plain ?_)
  exact thn hA fun us s2 ⟨vs, H2, I2, r2, q2⟩ => hm pins s2 σ H2 (V.ref a) vs (.ref a) us Q I2 rfl r2 q2
end
/-- t[lo:hi]: the whole of it is t itself -/
def rSlF (K : PySem.W.Frag) : V → Option Int → Option Int → Hp → VK → Prop := fun x lo hi H Q => ∃ a xs, x = .ref a ∧ SqT K H a xs ∧
  (HT.sIx xs.length 0 lo = 0 ∧ HT.sIx xs.length xs.length hi = xs.length → Q (.ref a) H) ∧ (¬ (HT.sIx xs.length 0 lo = 0 ∧ HT.sIx xs.length xs.length hi = xs.length) → ∀ p ob, H p = none → ob.dict = none → Q (.ref p) (upd H p (.frz ob (.tup (cutV xs lo hi)))))
theorem sl_tupFK {X : Cx} (K : PySem.W.Frag) (h : X.K = K := by rfl) : SlR X (rSlF K) := by
  subst h
  intro pins s σ H x v vl vu lo hi sl Q I rx hs pl pu h
  obtain ⟨a, xs, rfl, hx, q1, q2⟩ := h
  by_cases hw : HT.sIx xs.length 0 lo = 0 ∧ HT.sIx xs.length xs.length hi = xs.length
  · exact sl_tupA pins s σ H _ v vl vu lo hi sl Q I rx hs pl pu ⟨a, xs, rfl, hx, q1, fun z => absurd hw z⟩
  · cases rx
    obtain ⟨its, r, ht, hz⟩ := I.tuple hx
    have hlen : its.toArray.size = xs.length := by rw [List.size_toArray]; exact r.length.symm
    refine ⟨"tuple", _, PyProof.Rows.slot_tuple_getitem.lookup, ht.typeIs, ?_⟩
    refine HT.getItem_tuple_cut ht hs pl pu (by rw [hlen]; exact hw) ?_ (by rw [hlen]; exact hz)
    rw [hlen]
    refine ⟨.ref s.heap.objs.size, _, I.laid (t' := s.toks) (o := .frz { cls := .type "tuple", data := .seq (List.take (HT.sIx xs.length xs.length hi - HT.sIx xs.length 0 lo) (List.drop (HT.sIx xs.length 0 lo) its.toArray.toList)).toArray } (.tup (cutV xs lo hi))) (fun b ob q => Heap.get?_push_of_some _ q) (Nat.le_refl _) ?_, rfl, q2 hw _ _ (I.hok.fresh (Nat.le_refl _)) ?_⟩
    · exact ⟨Heap.get?_push_size _ rfl, Nat.le_trans (cutV_length xs lo hi) hz, _, (r.drop (HT.sIx xs.length 0 lo)).take (HT.sIx xs.length xs.length hi - HT.sIx xs.length 0 lo), IsTup.new _ _⟩
    · rfl
theorem Sep.sub {G H : Hp} {M M' : List (Addr × HO)} (S : Sep G M H) (h : M'.Sublist M) : Sep G M' H := ⟨S.1, fun p hp => S.2.1 p (h.subset hp), List.Nodup.sublist (h.map _) S.2.2⟩
theorem Sep.rot2 {G H : Hp} {a b c d : Addr × HO} {M : List (Addr × HO)} (S : Sep G (a :: b :: c :: d :: M) H) : Sep G (c :: d :: a :: b :: M) H := S.perm (List.perm_append_comm_assoc [a, b] [c, d] M)
theorem Sep.no3 {G H : Hp} {a b c : Addr × HO} {M : List (Addr × HO)} (S : Sep G (a :: b :: c :: M) H) : Sep G (a :: b :: M) H := S.sub ((List.sublist_cons_self c M).cons₂ b |>.cons₂ a)
/-! ### lists of ints, of pairs of ints, as data -/
def prd (p : Int × Int) : PyData := .tuple [.int p.1, .int p.2]
theorem prd_can (p : Int × Int) : (prd p).canLay0 = true := by simp [prd, PyData.canLay0, PyData.canLayAll0]
theorem prd_shaped (p : Int × Int) : SeqAt.shaped (prd p) = true := by
  unfold SeqAt.shaped
  rw [prd_can]
  simp [prd, PyData.depth, PyData.depthAll]
theorem prds_can : ∀ ps : List (Int × Int), PyData.canLayAll0 (ps.map prd) = true
  | [] => by simp [PyData.canLayAll0]
  | p :: r => by simp [PyData.canLayAll0, prd_can p, prds_can r]
theorem ints_can : ∀ ns : List Int, PyData.canLayAll0 (ns.map PyData.int) = true
  | [] => by simp [PyData.canLayAll0]
  | n :: r => by simp [PyData.canLayAll0, PyData.canLay0, ints_can r]
theorem prd_eqv (p q : Int × Int) : PyData.eqv (prd p) (prd q) = decide (p = q) := by
  obtain ⟨a, b⟩ := p
  obtain ⟨c, d⟩ := q
  simp only [prd, PyData.eqv, PyData.eqvAll, Bool.and_true]
  by_cases h1 : a = c <;> by_cases h2 : b = d <;> simp [h1, h2]
theorem int_shaped (n : Int) : SeqAt.shaped (.int n) = true := by simp [SeqAt.shaped, PyData.canLay0, PyData.depth]
theorem ints_dp {K : PySem.W.Frag} {H : Hp} : ∀ ns : List Int, DpAll K H (ns.map V.int) (ns.map PyData.int)
  | [] => .nil
  | n :: r => .cons (.int n) (ints_dp r)
theorem any_ints (n : Int) (ns : List Int) : ((ns.map PyData.int).any fun z => PyData.eqv z (.int n)) = decide (n ∈ ns) := by
  induction ns with
  | nil => rfl
  | cons m r ih =>
    rw [List.map_cons, List.any_cons, ih]
    show ((m == n) || decide (n ∈ r)) = decide (n ∈ m :: r)
    by_cases e : n = m
    · subst e; simp
    · have e2 : ¬ m = n := fun q => e q.symm
      simp [e, e2]
theorem any_prds (p : Int × Int) (ps : List (Int × Int)) : ((ps.map prd).any fun z => PyData.eqv z (prd p)) = decide (p ∈ ps) := by
  induction ps with
  | nil => rfl
  | cons q r ih =>
    rw [List.map_cons, List.any_cons, ih, prd_eqv]
    by_cases e : p = q
    · subst e; simp
    · have e2 : ¬ q = p := fun h => e h.symm
      simp [e, e2]
end XL
set_option Elab.async false
set_option linter.all false
set_option maxRecDepth 100000
set_option maxHeartbeats 4000000
/-! XOwn: o[i], o[i] = v by own methods. -/
namespace XL
open PySem PySem.Spec PyProof.Rows L2
section
variable {X : Cx} {CX : CXT} {C f : Addr} {fd : FuncData} {ps : List Str} {sp : Sp} {E : XK} {n : Nat} {o i : Expr} {to ti : TE} {pos : Pos}
def yIxO (C : Addr) (sp : Sp) (E : XK) : R2 := fun x y H Q => ∃ a dx fs, x = .ref a ∧ H a = some (.ins C dx fs) ∧ sp [.ref a, y] H Q E
theorem pe_ixO (ho : PE X o to) (hi : PE X i ti) (F : FnOk X.prog X.w X.K X.mg X.base CX n f fd ps sp) (hs : PySem.W.findIn X.K (.ref C) "__getitem__" = some (some (.ref f))) (hf : PySem.W.fnIn X.K f = true) (hfn : PySem.W.isFn X.K (.ref f) = true)
    (hb : Binds X.K fd ps []) (hx : Passes CX X E) (hr : Room (n + 1) X.A) (hsl : ∀ x v, subscripted i true (.ref x) v = runValue (.builtin "lifetime.subscript" ⟨[.ref x, v], []⟩) := by intro _ _; with_unfolding_all rfl) :
    PE X (.Subscript o i pos) (tOp (yIxO C sp E) to ti) := by
  refine ⟨fun pins s σ H Q I h => ?_⟩
  refine Subscript_ (thn (ho.run pins s σ H _ I h) fun v s1 ⟨x, H1, I1, r1, q1⟩ => thn (hi.run pins s1 σ H1 _ I1 q1) fun u s2 ⟨y, H2, I2, r2, q2⟩ => ?_)
  obtain ⟨a, dx, fs, rfl, ha, hsp⟩ := q2
  cases r1
  obtain ⟨mA, J, _⟩ := ins_get I2.hok ha
  obtain ⟨od, J, _⟩ := J.look
  obtain ⟨m, hF⟩ := I2.fr
  refine PySem.W.sub_K hF I2.ok.mod.kin J hs hf hfn ?_ (hsl _ _)
  have hl : ([Value.ref a, u] ++ []).length = ps.length := F.len _ _ _ _ hsp
  refine wpAny_call (codeAny_mono (F.run X.A.in1 X.stack s2 H2 ⟨[.ref a, u], []⟩ [.ref a, u] [.ref a, y] Q E hr.in1 I2.env0.in1 (hb s2 [.ref a, u] I2.kIn hl) (.cons rfl (.cons r2 .nil)) hsp) fun r s' hq => ?_)
  cases r with
  | error e => exact hx pins σ H2 s2 e s' I2 hq
  | ok fl =>
    cases fl with
    | ret u => exact I2.after hq
    | next => exact False.elim hq
    | brk => exact False.elim hq
    | cont => exact False.elim hq
def yStO (C : Addr) (sp : Sp) (E : XK) : TSet := fun x y v H Q => ∃ a dx fs, x = .ref a ∧ H a = some (.ins C dx fs) ∧ sp [.ref a, y, v] H (fun _ H' => Q H') E
theorem set_own (F : FnOk X.prog X.w X.K X.mg X.base CX n f fd ps sp) (hq : PySem.W.noSeq X.K C = true) (hs : PySem.W.findIn X.K (.ref C) "__setitem__" = some (some (.ref f))) (hfn : PySem.W.isFn X.K (.ref f) = true)
    (hb : Binds X.K fd ps []) (hx : Passes CX X E) (hr : Room n X.A) : PSet X (yStO C sp E) := by
  intro pins s σ H x y v xv yv vv Q I rx ry rv h
  obtain ⟨a, dx, fs, rfl, ha, hsp⟩ := h
  cases rx
  obtain ⟨mA, J, _⟩ := ins_get I.hok ha
  obtain ⟨od, J, _⟩ := J.look
  obtain ⟨m, hF⟩ := I.fr
  refine PySem.W.ksp_setItem hF I.ok.mod.kin J hq hs hfn ?_
  refine wpAny_mono (run_fn (us := [.ref a, yv, vv]) (vs := [.ref a, y, v]) (dvs := []) F hr hb .nil hx I (.cons rfl (.cons ry (.cons rv .nil))) hsp) (fun r s' q => ?_) fun _ _ e => e
  obtain ⟨z, H', I', rz, q⟩ := q
  exact ⟨H', I', q⟩
end
end XL
set_option Elab.async false
set_option linter.all false
set_option maxRecDepth 100000
set_option maxHeartbeats 4000000
/-! XTup: tuples made by a display or by +, as objects without a dict. -/
namespace XL
open PySem PySem.Spec PyProof.Rows L2
section
variable {X : Cx} {es : List Expr} {t : TA} {pos : Pos}
def tTupF (t : TA) : TE := fun σ H Q => t σ H fun xs H1 => xs.length ≤ sizeLine ∧ ∀ p ob, H1 p = none → ob.dict = none → Q (.ref p) (upd H1 p (.frz ob (.tup xs)))
theorem pe_tupF {x1} (h : PA X es t) : PE X (.Tuple es x1 pos) (tTupF t) := by
  refine ⟨fun pins s σ H Q I hq => ?_⟩
  refine wpAny_Tuple_spliced (thn (h.run pos pins s σ H _ I hq) fun us s1 ⟨xs, H1, I1, r, z, q⟩ => ⟨by rw [← r.length]; exact z, ?_⟩)
  have hf : H1 s1.heap.objs.size = none := I1.hok.fresh (Nat.le_refl _)
  refine ⟨.ref s1.heap.objs.size, _, I1.laid (t' := s1.toks) (o := .frz { cls := .type "tuple", data := .seq us.toArray } (.tup xs)) (fun b u e => Heap.get?_push_of_some _ e) (Nat.le_refl _) ?_, rfl, q _ _ hf rfl⟩
  exact ⟨Heap.get?_push_size _ rfl, z, us, r, ⟨_, Heap.get?_push_size _ rfl, rfl, _, rfl⟩⟩
def rCatF (K : PySem.W.Frag) : R2 := fun x y H Q => ∃ a b xs ys, x = .ref a ∧ y = .ref b ∧ SqT K H a xs ∧ SqT K H b ys ∧ xs.length + ys.length ≤ sizeLine ∧
  (xs = [] → Q (.ref b) H) ∧ (xs ≠ [] → ys = [] → Q (.ref a) H) ∧ (xs ≠ [] → ys ≠ [] → ∀ p ob, H p = none → ob.dict = none → Q (.ref p) (upd H p (.frz ob (.tup (xs ++ ys)))))
theorem op_catFK (K : PySem.W.Frag) (h : X.K = K := by rfl) : OpR X (binaryOp .Add) (rCatF K) := by
  subst h
  intro pins s σ H x y v u Q I rx ry h
  obtain ⟨a, b, xs, ys, rfl, rfl, ha, hb, hz, q0, q1, q2⟩ := h
  by_cases hx : xs = []
  · exact op_catA pins s σ H _ _ v u Q I rx ry ⟨a, b, xs, ys, rfl, rfl, ha, hb, hz, q0, fun z => absurd hx z, fun z => absurd hx z⟩
  · cases rx
    cases ry
    obtain ⟨its, r1, p1, _⟩ := I.tuple ha
    obtain ⟨its2, r2, p2, _⟩ := I.tuple hb
    refine HT.cat_tup p1 p2 (fun z => hx (r1.nil_iff.mp z)) (fun z => ⟨.ref a, H, I, rfl, q1 hx (r2.nil_iff.mp z)⟩) (fun z => ?_) (by rw [← r1.length, ← r2.length]; exact hz)
    refine ⟨.ref s.heap.objs.size, _, I.laid (t' := s.toks) (o := .frz { cls := .type "tuple", data := .seq (its ++ its2).toArray } (.tup (xs ++ ys))) (fun b ob q => Heap.get?_push_of_some _ q) (Nat.le_refl _) ?_, rfl, q2 hx (fun w => z (r2.nil_iff.mpr w)) _ _ (I.hok.fresh (Nat.le_refl _)) rfl⟩
    exact ⟨Heap.get?_push_size _ rfl, by rw [List.length_append]; exact hz, _, r1.append r2, IsTup.new _ _⟩
end
section
variable {K : PySem.W.Frag} {a : Addr} {xs : List V} {Qd : Hp → Prop} {B : V → Hp → (Hp → Prop) → Prop} {H0 : Hp}
/-- a clause of a comprehension over a list -/
theorem loopL (Pv : Nat → Hp → Prop) (h0 : Pv 0 H0) (hl : ∀ k H, Pv k H → SqL K H a xs) (hs : ∀ k x H, xs[k]? = some x → Pv k H → B x H (Pv (k + 1))) (hd : ∀ H, Pv xs.length H → Qd H) :
    ∃ W : Nat → Nat → Hp → Prop, (∃ m, W 0 m H0) ∧ ∀ i m H, W i m H → ((Itl K a).stop i H ∧ Qd H) ∨ ((Itl K a).go i H ∧ ∃ Nx : Hp → Prop, (∀ H', Nx H' → ∃ m', m' < m ∧ W (i + 1) m' H') ∧ ∀ x H', (Itl K a).yld i H x H' → B x H' Nx) := by
  refine ⟨fun i m H => m = xs.length - i ∧ i ≤ xs.length ∧ Pv i H, ⟨xs.length, by simp, Nat.zero_le _, h0⟩, ?_⟩
  rintro i m H ⟨rfl, hi, p⟩
  have q := hl i H p
  by_cases hlt : i < xs.length
  · refine .inr ⟨⟨xs, xs[i], q, by simp [hlt]⟩, Pv (i + 1), fun H' p' => ⟨xs.length - (i + 1), by omega, rfl, hlt, p'⟩, fun x H' y => ?_⟩
    obtain ⟨e, y⟩ := y
    subst e
    exact hs i x _ (y xs q) p
  · have e : i = xs.length := by omega
    subst e
    exact .inl ⟨⟨xs, q, Nat.le_refl _⟩, hd H p⟩
/-- a clause of a comprehension over a range -/
theorem loopR {lo : Int} {n : Nat} (Pv : Nat → Hp → Prop) (h0 : Pv 0 H0) (hs : ∀ k H, k < n → Pv k H → B (.int (lo + k)) H (Pv (k + 1))) (hd : ∀ H, Pv n H → Qd H) :
    ∃ W : Nat → Nat → Hp → Prop, (∃ m, W 0 m H0) ∧ ∀ i m H, W i m H → ((Itr lo n).stop i H ∧ Qd H) ∨ ((Itr lo n).go i H ∧ ∃ Nx : Hp → Prop, (∀ H', Nx H' → ∃ m', m' < m ∧ W (i + 1) m' H') ∧ ∀ x H', (Itr lo n).yld i H x H' → B x H' Nx) := by
  refine ⟨fun i m H => m = n - i ∧ i ≤ n ∧ Pv i H, ⟨n, by simp, Nat.zero_le _, h0⟩, ?_⟩
  rintro i m H ⟨rfl, hi, p⟩
  by_cases hlt : i < n
  · refine .inr ⟨hlt, Pv (i + 1), fun H' p' => ⟨n - (i + 1), by omega, rfl, hlt, p'⟩, fun x H' y => ?_⟩
    obtain ⟨e, y⟩ := y
    subst e y
    exact hs i _ hlt p
  · have e : i = n := by omega
    subst e
    exact .inl ⟨Nat.le_refl _, hd H p⟩
/-- row + (item,) -/
theorem cat_one {G H : Hp} {M : List (Addr × HO)} {r : Addr} {n : List Int} {i : Int} {Q : VK} (S : Sep G M H) (hr : TupF G r (n.map V.int)) (hl : n.length ≤ 1000)
    (q : ∀ (p : Addr) (G' H' : Hp), Same G G' → Sep G' M H' → TupF G' p ((n ++ [i]).map V.int) → Q (.ref p) H') :
    [V.int i].length ≤ sizeLine ∧ ∀ p ob, H p = none → ob.dict = none → rCatF K (.ref r) (.ref p) (upd H p (.frz ob (.tup [.int i]))) Q := by
  refine ⟨sz, fun p ob np hob => ?_⟩
  have S1 := S.newG (o := .frz ob (.tup [.int i])) np
  have s1 := S.grow (o := .frz ob (.tup [.int i])) np
  have h1 : TupF (upd G p (.frz ob (.tup [.int i]))) p [.int i] := ⟨ob, hob, upd_same⟩
  refine ⟨r, p, n.map V.int, [.int i], rfl, rfl, ((hr.same s1).same S1.1).tu.sq, (h1.same S1.1).tu.sq, small (by rw [List.length_map]; simp; omega), fun e => ?_, fun _ e => (nomatch e), fun _ _ p2 ob2 np2 hob2 => ?_⟩
  · have e2 : n = [] := List.map_eq_nil_iff.mp e
    subst e2
    exact q p _ _ s1 S1 h1
  · have e3 : n.map V.int ++ [V.int i] = (n ++ [i]).map V.int := by rw [List.map_append]; rfl
    rw [e3]
    exact q p2 _ _ (s1.trans (S1.grow np2)) (S1.newG np2) ⟨ob2, hob2, upd_same⟩
end
end XL
set_option Elab.async false
set_option linter.all false
set_option maxRecDepth 100000
set_option maxHeartbeats 4000000
/-! XExc: an error of the program's own, class E(ScreenError): __init__(self, x): super().__init__(f'..{x!r}'); self.x = x: made, raised, caught. -/
namespace PySem
namespace XExc
open PySem.W PySem.Calls PyProof.Rows PySem.HandSPX
/-! ### the text of __init__ -/
def iA (fld : Str) (p1 p2 : Pos) : Arguments := { posonlyargs := [], args := [{ arg := "self", annotation := none, pos := p1 }, { arg := fld, annotation := none, pos := p2 }], vararg := none, kwonlyargs := [], kw_defaults := [], kwarg := none, defaults := [] }
structure Ps where
  a : Pos
  b : Pos
  c : Pos
  d : Pos
  e : Pos
  f : Pos
  g : Pos
  h : Pos
  i : Pos
  j : Pos
  k : Pos
  l : Pos
  m : Pos
  cv : Int
  cp : cv = 114 ∨ cv = -1
def iSup (q : Ps) : Expr := .Call (.Name "super" q.a) [] [] q.b
def iArg (fld : Str) (msg : Str) (q : Ps) : Expr := .JoinedStr [.Constant (.str msg) 0 q.d, .FormattedValue (.Name fld q.e) q.cv none q.f] q.g
def iCall (fld : Str) (msg : Str) (q : Ps) : Expr := .Call (.Attribute (iSup q) "__init__" q.c) [iArg fld msg q] [] q.h
def iB (fld : Str) (msg : Str) (q : Ps) : List Stmt := [.Expr (iCall fld msg q) q.i, .Assign [.Attribute (.Name "self" q.j) fld q.k] (.Name fld q.l) q.m]
/-- how the call is evaluated (the positions decide nothing here) -/
def Evals (fld msg : Str) (q : Ps) : Prop := ∃ pl : Env → Sem Bool, ∀ env : Env, eval (iCall fld msg q) env = (do
  let ov ← attributeBase (iSup q) "__init__" env (eval (iSup q) env)
  standAt q.c.atName
  let (f, first) ← holding [ov] (getMethod ov "__init__" (pl env))
  callWith q.h f first (backTo q.h (starEach [iArg fld msg q] env)) [])
def iN (fld : Str) : List (Str × NameKind) := [(PySem.Str.ofString "self", .local), (fld, .local), (PySem.Str.ofString "__class__", .free), (PySem.Str.ofString "super", .globalImplicit)]
def iS (fld : Str) : Scope := { kind := .function, names := iN fld, isGenerator := false, isCoroutine := false, more := [] }
/-- what the written part says of the class at C and of its __init__ at fI -/
structure ExTxt (P : Program) (K : Frag) (mg : Str → Option Value) (nm fld msg : Str) (C fI : Addr) : Prop where
  gC : mg nm = some (.ref C)
  cls : ∃ nm q N bs bm sn sub ab col dd k0 k1 k2 k3 k5, K.lookup C = some (excClassObj nm q C N bs bm true sn sub ab col dd k0 k1 k2 k3 k5 "ValueError.__new__") ∧ refsVE bm = true
  sa : findIn K (.ref C) "__setattr__" = some (some (.builtin "object.__setattr__"))
  ga : findIn K (.ref C) "__getattribute__" = some (some (.builtin "BaseException.__getattribute__"))
  gg : findIn K (.ref C) "__getattr__" = some none
  noN : findIn K (.ref C) fld = some none
  iC : findIn K (.ref C) "__init__" = some (some (.ref fI))
  tC : typeIn K (.ref fI) = some (.type "function")
  kC : keepIn K (.ref C) = true
  exC : subIn K (.ref C) (.type "BaseException") = some true
  tyC : typeIn K (.ref C) = some (.type "type")
  hdC : hasDictIn K C = true
  fn : ∃ (oc kV doc pm ct : Value) (od an : Option Addr) (osl : Array (Option Value)) (qual : Str) (cda cc : Addr) (p1 p2 : Pos) (q : Ps) (vs : Array Value) (file : Str) (tf : Tok) (ccl cl : Value) (cdd cld : Option Addr) (ccs csl : Array (Option Value)),
    K.lookup fI = some ⟨oc, od, .func (ksFn "__init__" qual (iA fld p1 p2) (iB fld msg q) (iS fld) .none kV doc pm an (.ref cda) ct cc), osl⟩ ∧ codeIn K (.ref cda) qual = true ∧ K.lookup cda = some ⟨ccl, cdd, .fields vs, ccs⟩ ∧ vs[2]? = some (.str file tf) ∧
    ((P.main.file : Str) == file) = true ∧ K.lookup cc = some ⟨cl, cld, .cell (some (.ref C)), csl⟩ ∧ Evals fld msg q ∧
    ∀ x v : Value, bindArgs (ksFn "__init__" qual (iA fld p1 p2) (iB fld msg q) (iS fld) .none kV doc pm an (.ref cda) ct cc) ⟨[x, v], []⟩ = pure [(("self" : Str), x), (fld, v)]
  sup : ks_superIn K C C "__init__" = some (some (.builtin "ValueError.__init__"))
  subV : subIn K (.ref C) (.type "ValueError") = some true
  mroS : mroIn K C (.ref C) = some true
  opq : nsIn K cStatics "thirdparty.any" = some none
  htop : (P.main.scope.names.lookup ("super" : Str)).isSome = false
  hsup : mg "super" = none
  f1 : fld ≠ "self"
  f2 : fld ≠ "__class__"
  f3 : fld ≠ "super"
  f4 : (fld == ("__debug__" : Str)) = false
  ml : msg.length ≤ 1000
/-- where the program stands -/
def PF (P : Program) (fl : Str) : Prop := ((P.main.file : Str) == fl) = true ∧ (P.main.scope.names.lookup ("super" : Str)).isSome = false
/-- what can be told in the message -/
def Rp (v : Value) : Prop := (∃ (y : Str) (t : Tok), v = .str y t ∧ (reprText y).length ≤ 100000) ∨ ∃ (i : Int) (t : Tok), v = .int i t ∧ i.natAbs.log2 < 1920
structure InitEnd (h h' : Heap) (x C dx : Addr) (fld : Str) (v : Value) : Prop where
  keep : ∀ b o, b ≠ x → h.get? b = some o → h'.get? b = some o
  obj : ∃ t1 : Addr, h'.get? x = some { cls := .ref C, dict := some dx, data := .fields #[.ref t1, .none, .none, .none, .bool false, .none] }
  dbig : h.objs.size ≤ dx
  dne : dx ≠ x
  ns : h'.Ns1 dx (fun y => if y = fld then some v else none)
structure OwnMade (h h' : Heap) (e C d : Addr) (fld : Str) (v : Value) : Prop where
  keep : ∀ b o, h.get? b = some o → h'.get? b = some o
  new : h.objs.size ≤ e
  obj : ∃ oe vs, h'.get? e = some oe ∧ oe.cls = .ref C ∧ oe.dict = some d ∧ oe.data = .fields vs ∧ vs[1]? = some .none
  dbig : h.objs.size ≤ d
  dne : d ≠ e
  ns : h'.Ns1 d (fun y => if y = fld then some v else none)
section
variable {prog : Program} {w : World} {A : Around} {E : Value → Shared → Prop} {h : Heap} {g : Array GenState} {d : Drawn} {t : Nat} {os : OsState}
variable {nm q : Str} {C N : Addr} {bs bm : List Value} {hdct : Bool} {sn : List Str} {sub : List Value} {ab : Bool} {col : Option Bool} {dd : Option Addr} {k0 k1 k2 k3 k5 : Option Value}
theorem call_mw {u e t0 : Addr} {rest : List Value} {Q : Value → Shared → Prop}
    (hC : h.get? C = some (excClassObj nm q C N bs bm hdct sn sub ab col dd k0 k1 k2 k3 k5 "ValueError.__new__")) (he : h.get? e = some (excO C t0)) (hu : h.get? u = some (kxs_mw "ValueError.__init__" e)) (hrest : rest.length ≤ sizeLine)
    (hq : ∀ h' t1, (∀ b o, b ≠ e → h.get? b = some o → h'.get? b = some o) → h.objs.size ≤ h'.objs.size → h'.get? e = some (excO C t1) → Q .none ⟨h', g, d, t, os⟩) :
    wpAny (model prog w) A (call (.ref u) rest) Q E ⟨h, g, d, t, os⟩ := by
  refine wpAny_call (codeAny_of_tree ?_)
  show wpAny _ A.in1 (callAny (.ref u) ⟨rest, []⟩) _ _ _
  simp only [callAny]
  refine wpAny_bind (wpAny_load hu ?_)
  simp only [kxs_mw, show (Value.type "method-wrapper" == Value.type "method" || Value.type "method-wrapper" == Value.type "builtin_function_or_method" || Value.type "method-wrapper" == Value.type "method-wrapper") = true by decide, if_true]
  refine W.KFB.if_so (by decide) ?_
  refine wpAny_bind (check_bound_init F.excBase_ValueError.toExcCallFacts hC he rfl ?_)
  refine wpAny_bind (wpAny_pure (wpAny_pure ?_))
  refine ⟨plainId_quiet F.excBase_ValueError.init.plain _, codeAny_builtin F.excBase_ValueError.initEntry ?_⟩
  rw [Around.under_plainId F.excBase_ValueError.init.plain _]
  wp_walk
  refine hq _ h.objs.size (fun b o hb ho => ?_) ?_ ?_
  · rw [Heap.get?_update_other _ _ (Ne.symm hb)]
    exact Heap.get?_push_of_some _ ho
  · simp [Heap.size_push]
  · rw [Heap.get?_update_self _ (Heap.get?_push_of_some _ he) rfl]
    rfl
end
section
variable {prog : Program} {w : World} {A : Around} {E : Value → Shared → Prop} {R : Result → Shared → Prop} {s : Shared} {K : Frag} {mg mb : Str → Option Value} {nm fld msg : Str} {C fI : Addr}
theorem one_size (v : Value) : [v].length ≤ sizeLine := by
  rw [sizeLine_eq]
  exact (by decide : 1 ≤ 16777216)
theorem reprChar_ge (q c : Nat) : 1 ≤ (Builtin.Str.reprChar q c).length := by
  unfold Builtin.Str.reprChar
  dsimp only
  repeat' split
  all_goals simp only [List.length_append, List.length_cons, List.length_nil]
  all_goals omega
theorem foldl_repr_ge1 (q : Nat) : ∀ (l : List Nat) (acc : Array Nat), acc.size + l.length ≤ (l.foldl (fun out c => out ++ (Builtin.Str.reprChar q c).toArray) acc).size
  | [], acc => Nat.le_refl _
  | c :: r, acc => by
    have ih := foldl_repr_ge1 q r (acc ++ (Builtin.Str.reprChar q c).toArray)
    have hc := reprChar_ge q c
    simp only [List.foldl_cons, List.length_cons]
    simp only [Array.size_append, List.size_toArray] at ih
    omega
theorem reprText_ge (x : Str) : x.length ≤ (reprText x).length := by
  unfold reprText
  show x.length ≤ ((x.cps.foldl (fun out c => out ++ (Builtin.Str.reprChar (reprQuote x) c).toArray) #[reprQuote x]).push (reprQuote x)).size
  rw [Array.size_push, ← Array.foldl_toList]
  have := foldl_repr_ge1 (reprQuote x) x.cps.toList #[reprQuote x]
  have e : x.cps.toList.length = x.length := by simp [Str.length]
  rw [e] at this
  omega
/-- f'..{v!r}' -/
theorem told_ok {env : Env} {q : Ps} {m : Str → Option Value} {v : Value} {Q : Value → Shared → Prop} (hn : s.heap.Ns env.locals m) (hv : m fld = some v) (hr : Rp v) (hml : msg.length ≤ 1000) (hk : env.scope.kind = .function) (hl : env.kindOf fld = some .local) (hd : (fld == ("__debug__" : Str)) = false)
    (h : ∀ u tk, Q u { s with toks := tk }) : wpAny (model prog w) A (eval (iArg fld msg q) env) Q E s := by
  unfold iArg
  have sm : ∀ n : Nat, n ≤ 200000 → n ≤ sizeLine := fun n hn => Nat.le_trans hn (by decide)
  rcases q.cp with ecv | ecv
  · rw [ecv]
    refine wpAny_JoinedStr ?_
    have e0 : evalEach [Expr.Constant (.str msg) 0 q.d, .FormattedValue (.Name fld q.e) 114 none q.f] env = [eval (.Constant (.str msg) 0 q.d) env, eval (.FormattedValue (.Name fld q.e) 114 none q.f) env] := by first | rfl | simp [evalEach]
    rw [e0]
    refine Calls.Constant_str ⟨msg, _, rfl, ?_, ?_⟩
    · rw [Str.length_append]
      exact sm _ (by show 0 + msg.length ≤ _; omega)
    refine wpAny_FormattedValue_repr (ESX.ldL hn hv ?_ hk hl hd)
    rcases hr with ⟨y, t, rfl, hz⟩ | ⟨i, t, rfl, hz⟩
    · have hz' : (reprText y).length ≤ sizeLine := sm _ (by omega)
      have out : ∀ (tk : Tok) (tt : Nat), ∃ (y' : Str) (t' : Tok), Value.str (reprText y) tk = .str y' t' ∧ (Str.empty ++ msg ++ y').length ≤ sizeLine ∧ Joins (model prog w) A E [] (Str.empty ++ msg ++ y') (fun out s₁ => out.length ≤ sizeLine ∧ Q (.str out s₁.toks) { s₁ with toks := s₁.toks + 1 }) { s with toks := tt } := fun tk tt => by
        have hl : (Str.empty ++ msg ++ reprText y).length ≤ sizeLine := by
          rw [Str.length_append, Str.length_append]
          exact sm _ (by show 0 + msg.length + _ ≤ _; omega)
        exact ⟨_, _, rfl, hl, hl, h _ _⟩
      exact pyReprObj_str (wpAny_formatField_str (out _ _) (out _ _) hz') hz'
    · have hz' := int_text_fits hz
      have ln : (toString i : Str).length ≤ 100000 := by
        have e := int_text_length_le (k := 1920) (by decide) hz
        show (Str.ofString (toString i)).length ≤ 100000
        rw [ofString_length]
        omega
      have out : ∀ (tk : Tok) (tt : Nat), ∃ (y' : Str) (t' : Tok), Value.str (toString i) tk = .str y' t' ∧ (Str.empty ++ msg ++ y').length ≤ sizeLine ∧ Joins (model prog w) A E [] (Str.empty ++ msg ++ y') (fun out s₁ => out.length ≤ sizeLine ∧ Q (.str out s₁.toks) { s₁ with toks := s₁.toks + 1 }) { s with toks := tt } := fun tk tt => by
        have hl : (Str.empty ++ msg ++ (toString i : Str)).length ≤ sizeLine := by
          rw [Str.length_append, Str.length_append]
          exact sm _ (by show 0 + msg.length + _ ≤ _; omega)
        exact ⟨_, _, rfl, hl, hl, h _ _⟩
      exact pyReprObj_int hz (wpAny_formatField_str (out _ _) (out _ _) hz')
  · rw [ecv]
    refine wpAny_JoinedStr ?_
    have e0 : evalEach [Expr.Constant (.str msg) 0 q.d, .FormattedValue (.Name fld q.e) (-1) none q.f] env = [eval (.Constant (.str msg) 0 q.d) env, eval (.FormattedValue (.Name fld q.e) (-1) none q.f) env] := by first | rfl | simp [evalEach]
    rw [e0]
    refine Calls.Constant_str ⟨msg, _, rfl, ?_, ?_⟩
    · rw [Str.length_append]
      exact sm _ (by show 0 + msg.length ≤ _; omega)
    refine wpAny_FormattedValue_plain (ESX.ldL hn hv ?_ hk hl hd)
    rcases hr with ⟨y, t, rfl, hz⟩ | ⟨i, t, rfl, hz⟩
    · have hy := reprText_ge y
      have hl : (Str.empty ++ msg ++ y).length ≤ sizeLine := by
        rw [Str.length_append, Str.length_append]
        exact sm _ (by show 0 + msg.length + _ ≤ _; omega)
      have out : ∀ (tk : Tok) (tt : Nat), ∃ (y' : Str) (t' : Tok), Value.str y tk = .str y' t' ∧ (Str.empty ++ msg ++ y').length ≤ sizeLine ∧ Joins (model prog w) A E [] (Str.empty ++ msg ++ y') (fun out s₁ => out.length ≤ sizeLine ∧ Q (.str out s₁.toks) { s₁ with toks := s₁.toks + 1 }) { s with toks := tt } := fun tk tt => ⟨_, _, rfl, hl, hl, h _ _⟩
      exact wpAny_formatField_str (out _ _) (out _ _) (sm _ (by omega))
    · have hz' := int_text_fits hz
      have ln : (toString i : Str).length ≤ 100000 := by
        have e := int_text_length_le (k := 1920) (by decide) hz
        show (Str.ofString (toString i)).length ≤ 100000
        rw [ofString_length]
        omega
      have hl : (Str.empty ++ msg ++ (toString i : Str)).length ≤ sizeLine := by
        rw [Str.length_append, Str.length_append]
        exact sm _ (by show 0 + msg.length + _ ≤ _; omega)
      exact wpAny_formatField_int hz ⟨_, _, rfl, hl, hl, h _ _⟩
end
section
variable {prog : Program} {w : World} {A : Around} {E : Value → Shared → Prop} {R : Result → Shared → Prop} {K : Frag} {mg mb : Str → Option Value} {nm fld msg : Str} {C fI : Addr}
theorem kept_but {K : Frag} {h h' : Heap} {x : Addr} (X : K.In h) (hx : K.lookup x = none) (k : ∀ b o, b ≠ x → h.get? b = some o → h'.get? b = some o) : K.In h' := fun a o e =>
  k a o (fun z => by rw [z, hx] at e; cases e) (X a o e)
theorem exc_init (T : ExTxt prog K mg nm fld msg C fI) {x t0 : Addr} {v : Value} {hp : Heap} {g : Array GenState} {dr : Drawn} {tk : Nat} {os : OsState} (X : K.In hp) (hlim : hp.NoLimit) (hG : hp.Ns mainGlobals mg) (hB : hp.Ns builtinsNs mb) (hbb : ∀ x : Str, x ≠ "__name__" → mb x = bootBuiltins x)
    (hx : hp.get? x = some (excO C t0)) (hnx : K.lookup x = none) (hroom : A.depth < recursionLimit) (hr : Rp v)
    (hq : ∀ h' tk' dx, InitEnd hp h' x C dx fld v → R (.ok (.ret .none)) ⟨h', g, dr, tk', os⟩) :
    codeAny (model prog w) A (.call (.ref fI) ⟨[.ref x, v], []⟩) R ⟨hp, g, dr, tk, os⟩ := by
  obtain ⟨oc, kV, doc, pm, ct, od, an, osl, qual, cda, cc, p1, p2, q, vs, file, tf, ccl, cl, cdd, cld, ccs, csl, ho, hcd, hcda, hvs, hfile, hcc, ⟨pl, hev⟩, hbind⟩ := T.fn
  obtain ⟨nm', q', N, bs, bm, sn, sub, ab, col, dd, k0, k1, k2, k3, k5, hC, hbm⟩ := T.cls
  have hcl : clsIn K C = some { name := nm', bases := bs, mro := .ref C :: bm, ns := N, qualname := q', hasDict := true, slotNames := sn, subclasses := sub, abstract := ab, collection := col, hasDel := false } := by unfold clsIn; rw [hC] <;> rfl
  have e1 : (iS fld).names.lookup fld = some .local := by
    show (iN fld).lookup fld = _
    unfold iN
    have z : (fld == PySem.Str.ofString "self") = false := by simpa using T.f1
    simp [List.lookup, z]
  have e2 : (iS fld).names.lookup ("self" : Str) = some .local := rfl
  have e3 : (iS fld).names.lookup ("__class__" : Str) = some .free := by
    show (iN fld).lookup ("__class__" : Str) = _
    unfold iN
    have z : (("__class__" : Str) == fld) = false := by simpa using Ne.symm T.f2
    have z2 : (("__class__" : Str) == PySem.Str.ofString "self") = false := by decide
    simp [List.lookup, z, z2]
  have e4 : (iS fld).names.lookup ("super" : Str) = some .globalImplicit := by
    show (iN fld).lookup ("super" : Str) = _
    unfold iN
    have z : (("super" : Str) == fld) = false := by simpa using Ne.symm T.f3
    have z2 : (("super" : Str) == PySem.Str.ofString "self") = false := by decide
    have z3 : (("super" : Str) == PySem.Str.ofString "__class__") = false := by decide
    simp [List.lookup, z, z2, z3]
  refine ks_codeAny_call_defAt (fd := ksFn "__init__" qual (iA fld p1 p2) (iB fld msg q) (iS fld) .none kV doc pm an (.ref cda) ct cc) (body := iB fld msg q) (binds := [("self", .ref x), (fld, v)]) hroom (X _ _ ho) rfl hlim (codeRec_of X hcd) rfl (BindsTo.of_eq (hbind _ _)) ?_ ?_ (fun h₁ hn k => ?_) rfl rfl rfl
  · intro y hy
    have hy : y ∈ iN fld := hy
    unfold iN at hy
    simp only [List.mem_cons, List.not_mem_nil, or_false] at hy
    rcases hy with rfl | rfl | rfl | rfl <;> exact fun z => nomatch z
  · intro y hy
    simp only [List.mem_cons, List.not_mem_nil, or_false] at hy
    rcases hy with rfl | rfl
    · exact e2
    · exact e1
  have X₁ : K.In h₁ := X.keeps k
  have hxL : hp.objs.size ≠ x := Nat.ne_of_gt (Heap.lt_size hx)
  have hx₁ := k _ _ hx
  have mS : List.lookup ("self" : Str) (List.reverse [(("self" : Str), Value.ref x), (fld, v)]) = some (.ref x) := by
    show List.lookup ("self" : Str) [(fld, v), (("self" : Str), Value.ref x)] = _
    have z : (("self" : Str) == fld) = false := by simpa using Ne.symm T.f1
    simp [List.lookup, z]
  have mF : List.lookup fld (List.reverse [(("self" : Str), Value.ref x), (fld, v)]) = some v := by
    show List.lookup fld [(fld, v), (("self" : Str), Value.ref x)] = _
    simp [List.lookup]
  refine ks_wpAt_execs_cons (ks_wpAt_Expr_any (ks_wpAt_MethodCall (o := iSup q) (name := "__init__") (he := hev _) ?_))
  have oC := X₁ _ _ hC
  refine ks_wpAt_super_base (env := callEnv (ksFn "__init__" qual (iA fld p1 p2) (iB fld msg q) (iS fld) .none kV doc pm an (.ref cda) ct cc) hp.objs.size fI) e4 e3 (by decide) rfl (X₁ _ _ ho) rfl rfl rfl (X₁ _ _ hcda) rfl hvs hfile T.htop ?_
  refine ks_loadName_global rfl e4 (loadGlobal_builtin (hG.keeps k) T.hsup (hB.keeps k) ((hbb _ (by decide +kernel)).trans (by first | boot_by_name | rfl | kernel_rfl)) ⟨rfl, ?_⟩)
  refine wpAny_loadName_free rfl e3 rfl ⟨_, X₁ _ _ hcc, rfl⟩ ?_
  refine wpAny_loadName_local rfl e2 hn mS ?_
  refine ks_wpAny_isType_cls oC rfl ⟨rfl, ?_⟩
  refine ks_wpAny_call_super oC rfl hx₁ rfl (fun c e => (nomatch e)) (looks_mroIn X₁ T.mroS) (fun h₂ hso k₂ => ?_)
  have X₂ : K.In h₂ := X₁.keeps k₂
  have hx₂ := k₂ _ _ hx₁
  have hsup : alongIn K "__init__" (((Value.ref C :: bm).dropWhile (· != .ref C)).drop 1) = some (some (.builtin "ValueError.__init__")) := by
    have z := T.sup
    unfold ks_superIn at z
    rw [hcl] at z
    exact z
  have I₂ : InstAt h₂ x (excO C t0) C none := ⟨hx₂, rfl, rfl, trivial⟩
  refine kxs_getMethod kxs_ValueError hso (looks_opaque X₂ T.opq) (l₀ := .ref C :: bm) ?_ rfl X₂ hsup (I₂.type.andThen (looks_subIn X₂ T.subV)) (ks_ne X₂ I₂ hcl) (by decide) ?_
  · exact fun A Q E s k q => wpAny_bind ((looks_clsIn X₂ hcl) A _ E s k (wpAny_pure q))
  have hu : (h₂.push (kxs_mw "ValueError.__init__" x)).get? h₂.objs.size = some (kxs_mw "ValueError.__init__" x) := Heap.get?_push_at rfl rfl
  have k₃ : ∀ b o, h₂.get? b = some o → (h₂.push (kxs_mw "ValueError.__init__" x)).get? b = some o := fun b o e => Heap.get?_push_of_some _ e
  have X₃ := X₂.keeps k₃
  have hn₃ : (h₂.push (kxs_mw "ValueError.__init__" x)).Ns hp.objs.size _ := (hn.keeps k₂).keeps k₃
  refine kxs_callWith (i := "ValueError.__init__") (x := x) rfl (evalArgs_plain ?_)
  show wpAny _ _ (spliced ((false, eval (iArg fld msg q) _) :: backTo q.h (starEach [] _))) _ _ _
  refine Calls.spliced_cons (told_ok hn₃ mF hr T.ml rfl e1 T.f4 fun u tk' => Calls.spliced_nil ⟨hu, ?_⟩)
  show wpAny _ _ (call (.ref h₂.objs.size) [u]) _ _ _
  refine call_mw (X₃ _ _ hC) (k₃ _ _ hx₂) hu (one_size _) fun h₄ t1 k₄ sz₄ hx₄ => ?_
  show wpAt _ _ _ (execs _ _) _ _ _
  refine wpAt_of_wpAny ?_
  have X₄ : K.In h₄ := kept_but X₃ hnx k₄
  have hn₄ : h₄.Ns hp.objs.size (fun x_1 => List.lookup x_1 (List.reverse [(("self" : Str), Value.ref x), (fld, v)])) := by
    obtain ⟨oL, es, ep, hL, r⟩ := hn₃
    exact ⟨oL, es, ep, k₄ _ _ hxL hL, r⟩
  refine wpAny_execs_cons (plainObj_wpAny_Assign_Attribute ?_)
  refine ESX.ldL hn₄ mF (ESX.ldL hn₄ mS ?_ rfl e2) rfl e1 T.f4
  refine set_plain X₄ (ox := excO C t1) (od := none) ⟨hx₄, rfl, rfl, trivial⟩ T.sa ?_
  refine exc_osa X₄ hx₄ hcl (show refsVE (.ref C :: bm) = true from hbm) rfl T.noN (fun h₅ tk₅ dx k₅ dn dne hx₅ hn₅ => ?_)
  show wpAny _ _ (execs _ _) _ _ _
  have z : hp.objs.size < h₄.objs.size := hn₄.lt
  exact wpAny_execs_nil (hq h₅ tk₅ dx ⟨fun b o hb e => k₅ b o hb (k₄ b o hb (k₃ b o (k₂ b o (k b o e)))), ⟨t1, hx₅⟩, Nat.le_of_lt (Nat.lt_of_lt_of_le z dn), dne, hn₅⟩)
end
section
variable {prog : Program} {w : World} {A : Around} {R : Result → Shared → Prop} {K : Frag} {mg mb : Str → Option Value} {nm fld msg : Str} {C fI : Addr}
theorem exc_made (T : ExTxt prog K mg nm fld msg C fI) {v : Value} {hp : Heap} {g : Array GenState} {dr : Drawn} {tk : Nat} {os : OsState} (X : K.In hp) (hlim : hp.NoLimit) (hG : hp.Ns mainGlobals mg) (hB : hp.Ns builtinsNs mb) (hbb : ∀ x : Str, x ≠ "__name__" → mb x = bootBuiltins x) (hroom : A.depth + 1 < recursionLimit) (hr : Rp v)
    (hq : ∀ h' tk' e d, OwnMade hp h' e C d fld v → R (.ok (.ret (.ref e))) ⟨h', g, dr, tk', os⟩) :
    codeAny (model prog w) A (.call (.ref C) ⟨[v], []⟩) R ⟨hp, g, dr, tk, os⟩ := by
  obtain ⟨nm', q', N, bs, bm, sn, sub, ab, col, dd, k0, k1, k2, k3, k5, hC, hbm⟩ := T.cls
  have k : ∀ b o, hp.get? b = some o → ((hp.push (kdv_tup [v])).push (excO C hp.objs.size)).get? b = some o := fun b o e => Heap.get?_push_of_some _ (Heap.get?_push_of_some _ e)
  have hget : ((hp.push (kdv_tup [v])).push (excO C hp.objs.size)).get? (hp.objs.size + 1) = some (excO C hp.objs.size) := by heap_get
  have hnx : K.lookup (hp.objs.size + 1) = none := by
    cases e : K.lookup (hp.objs.size + 1) with
    | none => rfl
    | some o =>
      have z : hp.get? (hp.objs.size + 1) = some o := X _ _ e
      exact absurd (Nat.lt_of_succ_lt (Heap.lt_size z)) (Nat.lt_irrefl _)
  refine call_own F.excBase_ValueError (fun X => refsVE_contains X bm hbm) (X _ _ hC) (looks_findIn X T.iC) (fun self => bind_fn X self T.tC) (one_size v) ?_
  refine exc_init (tk := tk) T (X.keeps k) (hlim.keeps k) (hG.keeps k) (hB.keeps k) hbb hget hnx ?_ hr fun h' tk' dx ⟨k', ⟨t1, hx⟩, dn, dne, hns⟩ => ?_
  · show A.depth + 1 < recursionLimit
    exact hroom
  · have old : ∀ b o, hp.get? b = some o → h'.get? b = some o := fun b o e => k' b o (Nat.ne_of_lt (Nat.lt_succ_of_lt (Heap.lt_size e))) (k b o e)
    have z : hp.objs.size + 1 + 1 ≤ dx := by
      first
        | (simpa only [Heap.size_push] using dn)
        | exact dn
        | (have q := dn; rw [Heap.size_push, Heap.size_push] at q; exact q)
    exact ⟨rfl, hq h' tk' (hp.objs.size + 1) dx ⟨old, Nat.le_succ _, ⟨_, _, hx, rfl, rfl, rfl, rfl⟩, Nat.le_trans (Nat.le_trans (Nat.le_succ _) (Nat.le_succ _)) z, dne, hns⟩⟩
end
end XExc
end PySem
namespace XL
open PySem PySem.Spec PyProof.Rows L2
/-! ### the error, over the abstract heap -/
def RpV (v : V) : Prop := (∃ y : Str, v = .str y ∧ (reprText y).length ≤ 100000) ∨ ∃ i : Int, v = .int i ∧ i.natAbs.log2 < 1920
theorem RpV.rp {v : V} {u : Value} (h : RpV v) (r : RelV v u) : PySem.XExc.Rp u := by
  rcases h with ⟨y, rfl, hz⟩ | ⟨i, rfl, hz⟩
  · obtain ⟨t, rfl⟩ := r
    exact .inl ⟨y, t, rfl, hz⟩
  · obtain ⟨t, rfl⟩ := r
    exact .inr ⟨i, t, rfl, hz⟩
theorem relO_one {fld : Str} {v : V} {v' : Value} (r : RelV v v') (f : Str) : RelO (List.lookup f [(fld, v)]) (if f = fld then some v' else none) := by
  by_cases hw : f = fld
  · subst hw
    rw [if_pos rfl]
    have q : List.lookup f [(f, v)] = some v := by simp [List.lookup]
    rw [q]
    exact r
  · rw [if_neg hw]
    have qw : (f == fld) = false := by simpa using hw
    have q2 : List.lookup f [(fld, v)] = none := by simp [List.lookup, qw]
    rw [q2]
    trivial
section
variable {X : Cx} {C fI : Addr} {nm fld msg : Str}
def tMkX (C : Addr) (fld : Str) (ta : TA) : L2.St → Hp → XK → Prop := fun σ H Q => ta σ H fun vs H1 => ∃ v, vs = [v] ∧ RpV v ∧ ∀ d, H1 d = none → Q (.ref C) (some d) (upd H1 d (.xd [(fld, v)]))
theorem pmk_x {a : Expr} {ta : TA} {p pos : Pos} {k : Nat} (T : PySem.XExc.ExTxt X.prog X.K X.mg nm fld msg C fI) (hr : Room (k + 1) X.A) (ha : PA X [a] ta) (hg : Gl X nm := by rfl) (hd : (nm == ("__debug__" : Str)) = false := by decide)
    (he : starEach (a :: []) X.env = (false, eval a X.env) :: starEach [] X.env := by rfl) (hpl : (backTo pos (starEach [] X.env)).any (·.1) = false := by rfl) :
    PMk X (.Call (.Name nm p) [a] [] pos) (tMkX C fld ta) := by
  intro pins s σ H Q I h
  refine wpAny_Call_Name_kw (ld_glob I hg T.gC ?_ hd)
  refine PySem.W.callWith_K (h₀ := X.base) I.ok.mod.kin T.kC (thn (ha.run pos pins s σ H _ I h) fun us s1 hh => ?_) he hpl
  obtain ⟨vs, H1, I1, r1, v, ev, rp, q1⟩ := hh
  subst ev
  refine ⟨I1.kIn, ?_⟩
  cases r1 with
  | cons rv rn =>
    rename_i v' us'
    cases rn
    show wpAny _ _ (call (.ref C) [v']) _ _ _
    have hlim := I1.nolimit
    have hG := I1.mod.glob.keeps I1.bk
    obtain ⟨mb, hB, hbb⟩ := I1.mod.blt
    have hB := hB.keeps I1.bk
    obtain ⟨hp, g, dr, tk, os⟩ := s1
    refine wpAny_call (PySem.XExc.exc_made T I1.kIn hlim hG hB hbb (by have := hr.dp; omega) (rp.rp rv) fun h' tk' e d M => ?_)
    show MkP X pins σ Q (.ref e) ⟨h', g, dr, tk', os⟩
    obtain ⟨oe, fv, hoe, hc, hd, hdat, h1⟩ := M.obj
    have hns := M.ns
    obtain ⟨G', g1, g2⟩ := restrict h' fun b => decide (b ≠ e)
    have gk : ∀ b, b ≠ e → G'.get? b = h'.get? b := fun b hb => g1 b (decide_eq_true hb)
    have ge : G'.get? e = none := g2 e (by simp)
    have old : ∀ b o, hp.get? b = some o → G'.get? b = some o := fun b o q => (gk b (Nat.ne_of_lt (Nat.lt_of_lt_of_le (Heap.lt_size q) M.new))).trans (M.keep b o q)
    have ob : ObjOk X.prog X.w (upd H1 d (.xd [(fld, v)])) G' d (.xd [(fld, v)]) :=
      ⟨_, hns.at (fun o q => (gk d M.dne).trans q), fun f => relO_one rv f⟩
    have J : Inv X pins σ (upd H1 d (.xd [(fld, v)])) ⟨G', g, dr, tk', os⟩ := I1.laid (t' := tk') old M.dbig ob
    refine ⟨e, oe, fv, ⟨G', g, dr, tk', os⟩, _, .ref C, some d, rfl, J, fun b o q => ?_, ge, hoe, ⟨hc, hd⟩, hdat, h1, ?_, rfl, I1.bare, raises_own T.exC T.tyC, q1 d (I1.hok.fresh M.dbig)⟩
    · by_cases hb : b = e
      · have q' : G'.get? b = some o := q
        rw [hb, ge] at q'; cases q'
      · exact (gk b hb).symm.trans q
    · rw [upd_ne (Ne.symm M.dne)]
      exact I1.hok.fresh M.new
def tRaiseX (C : Addr) (fld : Str) (W : WX) (ta : TA) : TS := fun _ σ H => tMkX C fld ta σ H fun cls d H' => W cls d σ H'
theorem ps_raiseX {a : Expr} {ta : TA} {W : WX} {p pos pos2 : Pos} {k : Nat} (hc : X.calm = true) (T : PySem.XExc.ExTxt X.prog X.K X.mg nm fld msg C fI) (hr : Room (k + 1) X.A) (tk : Takes X W) (ha : PA X [a] ta) (hg : Gl X nm := by rfl) (hd : (nm == ("__debug__" : Str)) = false := by decide)
    (he : starEach (a :: []) X.env = (false, eval a X.env) :: starEach [] X.env := by rfl) (hpl : (backTo pos (starEach [] X.env)).any (·.1) = false := by rfl) :
    PS X (.Raise (some (.Call (.Name nm p) [a] [] pos)) none pos2) (tRaiseX C fld W ta) := ps_raise hc tk (pmk_x T hr ha hg hd he hpl)
end
/-! ### isinstance(e, c), isinstance(e, (c, ..)) of a caught error -/
section
variable {X : Cx} {a : Addr} {oe : Obj} {cls : Value} {d : Option Addr} {pn : List (Addr × Obj)}
inductive ClsRs : List V → List Value → Prop where
  | nil : ClsRs [] []
  | cons {c : Addr} {cs : List V} {us : List Value} (h : ClsRs cs us) : ClsRs (.ref c :: cs) (.ref c :: us)
theorem ClsRs.eq : ∀ {cs : List V} {us : List Value}, ClsRs cs us → ∀ {ws : List Value}, Vals cs ws → ws = us
  | _, _, .nil, _, .nil => rfl
  | _, _, .cons h, _, .cons r rs => by
    cases r
    rw [h.eq rs]
def rIsX (K : PySem.W.Frag) (cls : Value) (d : Option Addr) (a : Addr) : List V → Hp → VK → Prop := fun xs H Q => ∃ (D dd : Addr) (fs : List (Str × V)) (b : Bool), cls = .ref D ∧ d = some dd ∧ H dd = some (.xd fs) ∧ ExcC K D ∧
  ((∃ (c : V) (cv : Value), xs = [.ref a, c] ∧ (∀ u, RelV c u → u = cv) ∧ PySem.W.kitOne K (.ref D) cv = some b) ∨ ∃ (p : Addr) (cs : List V) (us : List Value), xs = [.ref a, .ref p] ∧ H p = some (.tup cs) ∧ ClsRs cs us ∧ PySem.W.kitAny K (.ref D) us = some b) ∧ Q (.bl b) H
theorem call_isX (hz : Zc cls d oe) (hf : ∃ vs, oe.data = .fields vs) : CallR (X.suite a ((a, oe) :: pn)) (.builtin "isinstance") (rIsX X.K cls d a) := by
  intro pins s σ H xs us Q I r h
  obtain ⟨D, dd, fs, b, rfl, rfl, hd, C, hcs, q⟩ := h
  obtain ⟨hget, _⟩ := I.pin (a, oe) (List.mem_append.mpr (.inl List.mem_cons_self))
  obtain ⟨vs, hv⟩ := hf
  have hx : ObjOk X.prog X.w H s.heap dd (.xd fs) := I.hok dd _ hd
  obtain ⟨mA, hns, _⟩ := hx
  obtain ⟨od, ho, _⟩ := lookIn_ns hns
  have J : PySem.W.InstAt s.heap a oe D (some od) := ⟨hget, hz.1, by unfold PySem.W.notCls; rw [hv] <;> rfl, by rw [hz.2]; exact ho⟩
  have cl : (PySem.W.clsIn X.K D).isSome = true := by
    obtain ⟨cd, hc, _⟩ := PySem.W.any_some C.hd
    rw [hc]
    rfl
  have Z := PySem.W.kitx_exc (x := a) (ox := oe) (od := some od) cl C.hg C.hk C.hs C.ha C.hn C.ht C.hm
  rcases hcs with ⟨c, cv, rfl, hcv, e⟩ | ⟨p, cs, us2, rfl, hp, hc, e⟩
  · cases r with
    | cons rx rr =>
      cases rr with
      | cons rt rr =>
        cases rr
        cases rx
        have ec := hcv _ rt
        subst ec
        exact PySem.W.kia_one Z I.kIn J e (fun z => nomatch z) fun tk => ⟨.bl b, H, I.kept (t' := tk) fun _ _ z => z, rfl, q⟩
  · cases r with
    | cons rx rr =>
      cases rr with
      | cons rt rr =>
        cases rr
        cases rx
        cases rt
        obtain ⟨_, its, rv, o, h1, h2, n, h3⟩ := (show ObjOk X.prog X.w H s.heap p (.tup cs) from I.hok p _ hp)
        have ei := hc.eq rv
        subst ei
        obtain ⟨oc, od', oda, osl⟩ := o
        dsimp only at h2 h3
        subst h2 h3
        exact PySem.W.kia_tup Z I.kIn J h1 e (fun z => nomatch z) fun tk => ⟨.bl b, H, I.kept (t' := tk) fun _ _ z => z, rfl, q⟩
end
/-! ### own [ ] and [ ] = within a try -/
section
variable {X : Cx} {CX : CXT} {C f : Addr} {fd : FuncData} {ps : List Str} {sp : Sp} {E : L2.St → XK} {n : Nat} {o i e : Expr} {to ti te : TE} {pos pos' : Pos}
def tIxOS (C : Addr) (sp : Sp) (E : L2.St → XK) (to ti : TE) : TE := fun σ H Q => to σ H fun x H1 => ti σ H1 fun y H2 => ∃ a dx fs, x = .ref a ∧ H2 a = some (.ins C dx fs) ∧ sp [.ref a, y] H2 Q (E σ)
theorem pe_ixOS (ho : PE X o to) (hi : PE X i ti) (F : FnOk X.prog X.w X.K X.mg X.base CX n f fd ps sp) (hs : PySem.W.findIn X.K (.ref C) "__getitem__" = some (some (.ref f))) (hf : PySem.W.fnIn X.K f = true) (hfn : PySem.W.isFn X.K (.ref f) = true)
    (hb : Binds X.K fd ps []) (hx : ∀ σ, PassesAt CX X σ (E σ)) (hr : Room (n + 1) X.A) (hsl : ∀ x v, subscripted i true (.ref x) v = runValue (.builtin "lifetime.subscript" ⟨[.ref x, v], []⟩) := by intro _ _; with_unfolding_all rfl) :
    PE X (.Subscript o i pos) (tIxOS C sp E to ti) := by
  refine ⟨fun pins s σ H Q I h => ?_⟩
  refine Subscript_ (thn (ho.run pins s σ H _ I h) fun v s1 ⟨x, H1, I1, r1, q1⟩ => thn (hi.run pins s1 σ H1 _ I1 q1) fun u s2 ⟨y, H2, I2, r2, q2⟩ => ?_)
  obtain ⟨a, dx, fs, rfl, ha, hsp⟩ := q2
  cases r1
  obtain ⟨mA, J, _⟩ := ins_get I2.hok ha
  obtain ⟨od, J, _⟩ := J.look
  obtain ⟨m, hF⟩ := I2.fr
  refine PySem.W.sub_K hF I2.ok.mod.kin J hs hf hfn ?_ (hsl _ _)
  have hl : ([Value.ref a, u] ++ []).length = ps.length := F.len _ _ _ _ hsp
  refine wpAny_call (codeAny_mono (F.run X.A.in1 X.stack s2 H2 ⟨[.ref a, u], []⟩ [.ref a, u] [.ref a, y] Q (E σ) hr.in1 I2.env0.in1 (hb s2 [.ref a, u] I2.kIn hl) (.cons rfl (.cons r2 .nil)) hsp) fun r s' hq => ?_)
  cases r with
  | error e => exact hx σ pins H2 s2 e s' I2 hq
  | ok fl =>
    cases fl with
    | ret u => exact I2.after hq
    | next => exact False.elim hq
    | brk => exact False.elim hq
    | cont => exact False.elim hq
def gSubS (C : Addr) (sp : Sp) (E : L2.St → XK) (to ti : TE) : TG := fun v σ H Q => to σ H fun x H1 => ti σ H1 fun y H2 => ∃ a dx fs, x = .ref a ∧ H2 a = some (.ins C dx fs) ∧ sp [.ref a, y, v] H2 (fun _ H' => Q σ H') (E σ)
theorem pg_subOS (ho : PE X o to) (hi : PE X i ti) (F : FnOk X.prog X.w X.K X.mg X.base CX n f fd ps sp) (hq : PySem.W.noSeq X.K C = true) (hs : PySem.W.findIn X.K (.ref C) "__setitem__" = some (some (.ref f))) (hfn : PySem.W.isFn X.K (.ref f) = true)
    (hb : Binds X.K fd ps []) (hx : ∀ σ, PassesAt CX X σ (E σ)) (hr : Room n X.A)
    (ha : ∀ v, assign (.Subscript o i pos) X.env v = (do
      let ov ← holding [v] (eval o X.env)
      let iv ← holding [v, ov] (eval i X.env)
      standAt pos
      holding [v, ov, iv] (setItem ov iv v)
      release [v, ov, iv] []) := by intro _; rfl) : PG X (.Subscript o i pos) (gSubS C sp E to ti) := by
  refine ⟨fun pins s σ H v u Q I r h => ?_⟩
  rw [ha]
  refine wpAny_bind (wpAny_holding (thn (ho.run pins s σ H _ I h) fun ov s1 ⟨x, H1, I1, r1, q1⟩ => ?_))
  refine wpAny_bind (wpAny_holding (thn (hi.run pins s1 σ H1 _ I1 q1) fun iv s2 ⟨y, H2, I2, r2, q2⟩ => ?_))
  obtain ⟨a, dx, fs, rfl, ha2, hsp⟩ := q2
  cases r1
  obtain ⟨mA, J, _⟩ := ins_get I2.hok ha2
  obtain ⟨od, J, _⟩ := J.look
  obtain ⟨m, hF⟩ := I2.fr
  refine wpAny_bind (wpAny_standAt (wpAny_bind (wpAny_holding (PySem.W.ksp_setItem hF I2.ok.mod.kin J hq hs hfn ?_))))
  refine wpAny_mono (run_fnS (us := [.ref a, iv, u]) (vs := [.ref a, y, v]) (E := E) F hr hb (hx σ) I2 (.cons rfl (.cons r2 (.cons r .nil))) hsp) (fun r s' q => ?_) fun _ _ e => e
  obtain ⟨z, H', I', rz, q⟩ := q
  exact wpAny_release ⟨σ, H', I', q⟩
end
end XL
set_option Elab.async false
set_option linter.all false
set_option maxRecDepth 100000
set_option maxHeartbeats 4000000
/-! XOwnIt: list(o), o an object whose own __iter__ hands on iter(t), t a tuple. -/
namespace XL
open PySem PySem.Spec PyProof.Rows L2
/-- an iterator over the tuple at t, the next place is i -/
def ItT (t it : Addr) (i : Nat) : HO := .ext fun h => IsTupIter h it t i
/-- .. that has ended -/
def ItTE (it : Addr) : HO := .ext fun h => ∃ o, h.get? it = some o
theorem itT_ok {P : Program} {w : World} {H : Hp} {h : Heap} {t it : Addr} {i : Nat} (e : IsTupIter h it t i) : ObjOk P w H h it (ItT t it i) := by
  obtain ⟨o, h1, h2⟩ := e
  exact ⟨⟨o, h1, h2⟩, ⟨_, h1⟩, fun g1 g2 ⟨o', q1, q2⟩ k => ⟨o', k _ q1, q2⟩⟩
theorem itTE_ok {P : Program} {w : World} {H : Hp} {h : Heap} {it : Addr} {o : Obj} (e : h.get? it = some o) : ObjOk P w H h it (ItTE it) := ⟨⟨o, e⟩, ⟨_, e⟩, fun g1 g2 ⟨o', q1⟩ k => ⟨o', k _ q1⟩⟩
section
variable {X : Cx} {pins : List (Addr × Obj)} {σ : L2.St} {H : Hp} {s : Shared}
theorem itT_get {t it : Addr} {i : Nat} (I : Inv X pins σ H s) (e : H it = some (ItT t it i)) : IsTupIter s.heap it t i := (I.hok it _ e).1
theorem call_iter_tup {M : Program} {w : World} {A : Around} {E : Value → Shared → Prop} {s : Shared} {t : Addr} {items : Array Value} {Q : Value → Shared → Prop} (ht : IsTup s.heap t items)
    (h : Q (.ref s.heap.objs.size) { s with heap := s.heap.push { cls := .type "tuple_iterator", data := .fields #[.ref t, .int 0 0] } }) : wpAny (model M w) A (call (.builtin "iter") [.ref t]) Q E s := by
  refine Calls.call_function_entry (by decide +kernel) (by decide +kernel) PySem.W.kdk_entry_iter (PySem.W.kdk_args_iter _) ?_
  unfold Builtin.«iter»
  refine wpAny_bind (m := someArgs "iter" 1 2 _) (wpAny_of_eq (a := [Value.ref t]) (by first | rfl | kernel_rfl!) ?_)
  show wpAny _ _ (pyIter (.ref t) >>= _) _ _ _
  refine wpAny_bind (iter_tuple ht ?_)
  exact wpAny_pure ⟨_, rfl, h⟩
/-- iter(t) -/
def rIterT (K : PySem.W.Frag) : List V → Hp → VK → Prop := fun xs H Q => ∃ (t : Addr) (zs : List V), xs = [.ref t] ∧ SqT K H t zs ∧ ∀ it, H it = none → Q (.ref it) (upd H it (ItT t it 0))
theorem call_iterT : CallR X (.builtin "iter") (rIterT X.K) := by
  intro pins s σ H xs us Q I r h
  obtain ⟨t, zs, rfl, hq, q⟩ := h
  obtain rfl := Vals.ref1 r
  obtain ⟨its, rv, pl, hz⟩ := I.tuple hq
  refine call_iter_tup pl ?_
  exact ⟨.ref s.heap.objs.size, _, I.laid (t' := s.toks) (fun b u e => Heap.get?_push_of_some _ e) (Nat.le_refl _) (itT_ok ⟨_, Heap.get?_push_size _ rfl, rfl, rfl⟩), rfl, q _ (I.hok.fresh (Nat.le_refl _))⟩
theorem call_iterTK (K : PySem.W.Frag) (h : X.K = K := by rfl) : CallR X (.builtin "iter") (rIterT K) := h ▸ call_iterT
theorem sqT_upd {K : PySem.W.Frag} {H : Hp} {t x : Addr} {zs : List V} {o : HO} (h : SqT K H t zs) (hx : ∀ o' xs, H x ≠ some (.tup xs) ∧ H x ≠ some (.frz o' (.tup xs))) : SqT K (upd H x o) t zs := by
  rcases h with (h | ⟨ob, h⟩) | h
  · have ne : t ≠ x := fun z => (hx default zs).1 (by rw [← z]; exact h)
    exact .inl (.inl (by rw [upd_ne ne]; exact h))
  · have ne : t ≠ x := fun z => (hx ob zs).2 (by rw [← z]; exact h)
    exact .inl (.inr ⟨ob, by rw [upd_ne ne]; exact h⟩)
  · exact .inr h
/-- the end of a tuple: the iterator itself stays there -/
theorem next_tup_end {P : Program} {w : World} {A : Around} {E : Value → Shared → Prop} {s : Shared} {it t : Addr} {i : Nat} {items : Array Value} {Q : Option Value → Shared → Prop} (hh : A.handled = none)
    (hit : IsTupIter s.heap it t i) (ht : IsTup s.heap t items) (hx : items[i]? = none)
    (hQ : ∀ h', Heap.ExtBut it s.heap h' → (∃ o, h'.get? it = some o) → Q none { s with heap := h' }) : wpAny (model P w) A (pyNext (.ref it)) Q E s := by
  obtain ⟨o, ho, hc, hd⟩ := id hit
  obtain ⟨ol, hol, _, nl, hdl⟩ := ht
  unfold pyNext
  refine wpAny_bind (wpAny_attempt (wpAny_callSpecial?_slot (name := Str.ofString "__next__") hit.typeIs slot_tupleiter_next (wpAny_call_entry slot_tupleiter_next hit.typeIs entry_tupleiter_next ?_ (args_tupleiter_next _))))
  show wpAny _ _ (field (.ref it) 0 >>= _) _ _ s
  refine wpAny_bind (wpAny_field ho hd (x := .ref t) rfl (PySem.W.KFB.if_not rfl ?_))
  show wpAny _ _ (field (.ref it) 1 >>= _) _ _ s
  refine wpAny_bind (wpAny_field ho hd (x := .int i 0) rfl ?_)
  show wpAny _ _ (seqItems? (.ref t) >>= _) _ _ s
  refine wpAny_bind (wpAny_seqItems hol hdl ?_)
  simp only [Int.toNat_natCast, hx]
  refine wpAny_bind (wpAny_rule (wpAny_bind (wpAny_setField ho hd (by simp) ?_)))
  show wpAny _ _ (newExc (.type "StopIteration") [] >>= _) _ _ _
  refine wpAny_bind ?_
  simp only [newExc, newTuple]
  refine wpAny_bind (wpAny_newObj_type ?_ (by size_fits))
  refine wpAny_bind (m := firstArgMember _ _) (wpAny_of_eq (a := Value.none) (by first | rfl | (simp only [firstArgMember]; rfl)) ?_)
  refine wpAny_newObj_type ?_ (by size_fits)
  simp only [raiseNew]
  refine wpAny_bind (wpAny_handled ?_)
  first | rw [show A.in1.handled = none from hh] | rw [hh]
  refine wpAny_bind (wpAny_pure (wpAny_throw ?_))
  refine wpAny_bind (wpAny_isInstance (T := "StopIteration") (b := true) ⟨_, Heap.get?_push_size _ rfl, rfl⟩ isSubtype_stop ?_)
  exact wpAny_pure (hQ _ (((Heap.SameBut.update ..).extBut.push _).push _) ⟨_, Heap.get?_push_of_some _ (Heap.get?_push_of_some _ (Heap.get?_update_self _ ho (Obj.isFreed_of_fields (Obj.data_mapFields hd _))))⟩)
/-- the loop that fills the list at q -/
theorem loop_tup {A1 : Around} {Rs : Result → Shared → Prop} {q it t : Addr} {zs : List V} (hd : A1.in1.handled = none) (hne : q ≠ it) :
    ∀ (k i : Nat) (H : Hp) (s : Shared), zs.length - i = k → i ≤ zs.length → Inv X pins σ H s → H it = some (ItT t it i) → SqT X.K H t zs → H q = some (.lst (zs.take i)) →
      (∀ s', Inv X pins σ (upd (upd H it (ItTE it)) q (.lst zs)) s' → Rs (.ok (.ret .none)) s') → codeAny (model X.prog X.w) A1 (.builtin "list.extend.loop" ⟨[.ref q, .ref it, .none], []⟩) Rs s := by
  intro k
  induction k with
  | zero =>
    intro i H s hk hi I hit ht hq hR
    obtain ⟨its, rv, pl, hz⟩ := I.tuple ht
    have hin : zs.length = its.length := rv.length
    have mu : Mut (H it) := by rw [hit]; exact True.intro
    refine codeAny_builtin PySem.F.entry_extend_loop ?_
    rw [Around.under_plainId PySem.F.plain_extend_loop _]
    show wpAny _ A1.in1 (pyNext (.ref it) >>= _) _ _ s
    have ei : i = zs.length := by omega
    refine wpAny_bind (next_tup_end hd (itT_get I hit) pl (by rw [List.getElem?_toArray]; exact List.getElem?_eq_none (by omega)) fun h' eb ⟨o, ho⟩ => wpAny_pure ?_)
    have I2 : Inv X pins σ (upd H it (ItTE it)) { s with heap := h' } := I.write (x := it) (e := it) (t' := s.toks) mu (.inl rfl) (fun b o nb z => eb b o nb z) ⟨_, ho⟩ (itTE_ok ho)
    refine hR _ ?_
    have e : upd (upd H it (ItTE it)) q (.lst zs) = upd H it (ItTE it) := by
      funext b
      by_cases hb : b = q
      · rw [hb, upd_same, upd_ne hne, hq, ei, List.take_length]
      · rw [upd_ne hb]
    rw [e]
    exact I2
  | succ k ih =>
    intro i H s hk hi I hit ht hq hR
    obtain ⟨its, rv, pl, hz⟩ := I.tuple ht
    have hin : zs.length = its.length := rv.length
    have mu : Mut (H it) := by rw [hit]; exact True.intro
    have hlt : i < zs.length := by omega
    have hzi := List.getElem?_eq_getElem hlt
    obtain ⟨u, hu, ru⟩ := rv.get hzi
    refine codeAny_builtin PySem.F.entry_extend_loop ?_
    rw [Around.under_plainId PySem.F.plain_extend_loop _]
    show wpAny _ A1.in1 (pyNext (.ref it) >>= _) _ _ s
    refine wpAny_bind (next_tuple_item (itT_get I hit) pl (by rw [List.getElem?_toArray]; exact hu) fun h' hit' sb => ?_)
    obtain ⟨o, ho, _⟩ := id hit'
    have I2 : Inv X pins σ (upd H it (ItT t it (i + 1))) { s with heap := h' } := I.write (x := it) (e := it) (t' := s.toks) mu (.inl rfl) (fun b o nb z => (sb.2 b nb).trans z) ⟨_, ho⟩ (itT_ok hit')
    have hq2 : upd H it (ItT t it (i + 1)) q = some (.lst (zs.take i)) := by rw [upd_ne hne]; exact hq
    show wpAny _ A1.in1 (updateSeq q (·.push u) >>= _) _ _ _
    obtain ⟨z, its2, c, r2, hl, e⟩ := I2.lstM hq2
    have l2 : its2.length ≤ 16777215 := by
      rw [← hl, List.length_take]
      have := hz
      rw [sizeLine_eq] at this
      omega
    refine wpAny_bind (wpAny_updateSeq e rfl (wpAny_pure ⟨plainId_quiet PySem.F.plain_extend_loop _, ?_⟩) (by rw [List.size_toArray, sizeLine_eq]; omega) (by show (its2.toArray.push u).size ≤ sizeLine + 1; rw [Array.size_push, List.size_toArray, sizeLine_eq]; omega))
    have I3 := I2.lset (f := (·.push u)) (its' := its2 ++ [u]) (ys := zs.take i ++ [zs[i]]) (t' := s.toks) hq2 e (by simp) (r2.append (.cons ru .nil)) (by rw [List.length_append, List.length_singleton, List.length_take, sizeLine_eq]; rw [sizeLine_eq] at hz; omega)
    refine ih (i + 1) _ _ (by omega) (by omega) I3 ?_ ?_ ?_ fun s' I4 => hR s' ?_
    · rw [upd_ne (Ne.symm hne), upd_same]
    · exact sqT_upd (sqT_upd ht fun o' xs => ⟨by rw [hit]; exact fun z => (nomatch z), by rw [hit]; exact fun z => (nomatch z)⟩) fun o' xs => ⟨by rw [hq2]; exact fun z => (nomatch z), by rw [hq2]; exact fun z => (nomatch z)⟩
    · rw [upd_same, take_snoc hzi]
    · have e4 : upd (upd (upd (upd H it (ItT t it (i + 1))) q (.lst (zs.take i ++ [zs[i]]))) it (ItTE it)) q (.lst zs) = upd (upd H it (ItTE it)) q (.lst zs) := by
        funext b
        by_cases hb : b = q
        · rw [hb, upd_same, upd_same]
        · rw [upd_ne hb, upd_ne hb]
          by_cases hb2 : b = it
          · rw [hb2, upd_same, upd_same]
          · rw [upd_ne hb2, upd_ne hb2, upd_ne hb, upd_ne hb2]
      rw [← e4]
      exact I4
/-- list(o) -/
def rListIt (K : PySem.W.Frag) (C : Addr) (sp : Sp) (E : XK) : List V → Hp → VK → Prop := fun xs H Q => ∃ a dx fs, xs = [.ref a] ∧ H a = some (.ins C dx fs) ∧
  ∀ q, H q = none → sp [.ref a] (upd H q (.lst [])) (fun v H1 => ∃ (it t : Addr) (zs : List V), v = .ref it ∧ H1 it = some (ItT t it 0) ∧ SqT K H1 t zs ∧ H1 q = some (.lst []) ∧ (∃ dx' fs', H1 a = some (.ins C dx' fs')) ∧ Q (.ref q) (upd (upd H1 it (ItTE it)) q (.lst zs))) E
theorem hint_own {M : Model} {A : Around} {E : Value → Shared → Prop} {s : Shared} {Q : Bool → Shared → Prop} {K : PySem.W.Frag} {C a : Addr} {ox : Obj} {od : Option Obj} (h1 : PySem.W.findIn K (.ref C) "__len__" = some none) (h2 : PySem.W.findIn K (.ref C) "__length_hint__" = some none)
    (hK : K.In s.heap) (J : PySem.W.InstAt s.heap a ox C od) (h : Q true s) : wpAny M A (Builtin.List.listLengthHint (.ref a)) Q E s := by
  unfold Builtin.List.listLengthHint
  refine wpAny_bind (wpAny_bind (J.type.here ((PySem.W.looks_findIn hK h1).here (PySem.W.KFB.if_not rfl (PySem.W.KFB.if_not rfl ?_)))))
  exact wpAny_bind (wpAny_bind (J.type.here ((PySem.W.looks_findIn hK h2).here (wpAny_pure h))))
theorem call_listIt {C f : Addr} {fd : FuncData} {ps : List Str} {sp : Sp} {E : XK} {n : Nat} {CX : CXT} (hs : PySem.W.findIn X.K (.ref C) "__iter__" = some (some (.ref f))) (hfn : PySem.W.isFn X.K (.ref f) = true) (n1 : PySem.W.findIn X.K (.ref C) "__len__" = some none) (n2 : PySem.W.findIn X.K (.ref C) "__length_hint__" = some none)
    (F : FnOk X.prog X.w X.K X.mg X.base CX n f fd ps sp) (hb : Binds X.K fd ps []) (hx : Passes CX X E) (hr : Room (n + 2) X.A) : CallR X (.type "list") (rListIt X.K C sp E) := by
  intro pins s σ H xs us Q I rv h
  obtain ⟨a, dx, fs, rfl, ha, hq⟩ := h
  obtain ⟨u, rfl, ru⟩ := rv.one
  cases ru
  have sb : Sub X n X.A.in1.in1 := (Sub.in1 (Sub.in1 (⟨hr, rfl⟩ : Sub X (n + 2) X.A)))
  refine callType_codes (Q₁ := fun obj s₁ => obj = .ref s.heap.objs.size ∧ s₁ = { s with heap := s.heap.push { cls := .type "list", data := .seq #[] } }) PySem.F.called_list (PySem.F.typeCall_list_1 _) PySem.F.entry_list_init
    (code_list_new _ ⟨rfl, rfl⟩) fun obj s₁ h₁ => ?_
  obtain ⟨rfl, rfl⟩ := h₁
  have hS : (s.heap.push { cls := .type "list", data := .seq #[] }).get? s.heap.objs.size = some { cls := .type "list", data := .seq #[] } := Heap.get?_push_size _ rfl
  refine ⟨⟨_, hS, rfl⟩, PySem.F.args_list_init_2 _ _, ?_⟩
  have fr : H s.heap.objs.size = none := I.hok.fresh (Nat.le_refl _)
  have hsp := hq _ fr
  have I1 : Inv X pins σ (upd H s.heap.objs.size (.lst [])) { s with heap := s.heap.push { cls := .type "list", data := .seq #[] } } := I.lnew (its := []) (t' := s.toks) .nil (Nat.zero_le _)
  show wpAny _ _ (do let old ← Builtin.List.listItems (.ref s.heap.objs.size); Builtin.List.listUpdate (.ref s.heap.objs.size) (fun _ => #[]); letGo old.toList.reverse; Builtin.List.listExtendWith (.ref s.heap.objs.size) (.ref a) .none) _ _ _
  refine wpAny_bind ?_
  unfold Builtin.List.listItems
  refine wpAny_bind (wpAny_seqItems hS rfl (wpAny_pure ?_))
  show wpAny _ _ (updateSeq s.heap.objs.size (fun _ => #[]) >>= fun _ => letGo (#[] : Array Value).toList.reverse >>= fun _ => Builtin.List.listExtendWith (.ref s.heap.objs.size) (.ref a) .none) _ _ _
  refine wpAny_bind (wpAny_updateSeq hS rfl ?_)
  have I2 := I1.lset (f := fun _ => #[]) (its := []) (its' := []) (ys := []) (t' := s.toks) upd_same hS rfl .nil (Nat.zero_le _)
  rw [upd_upd] at I2
  refine wpAny_bind (wpAny_letGo ?_)
  have ha2 : upd H s.heap.objs.size (.lst []) a = some (.ins C dx fs) := by rw [upd_ne (ne_of_none ha fr)]; exact ha
  have hne : s.heap.objs.size ≠ a := Ne.symm (ne_of_none ha fr)
  generalize hH2 : upd H s.heap.objs.size (.lst []) = H2 at *
  generalize s.heap.objs.size = q at *
  obtain ⟨mA, J, _⟩ := ins_get I2.hok ha2
  obtain ⟨od, J, _⟩ := J.look
  obtain ⟨m0, hF⟩ := I2.fr
  unfold Builtin.List.listExtendWith
  refine wpAny_bind (J.type.here ?_)
  have h1 : Builtin.List.listSameRef (.ref q) (.ref a) = false := by simp [Builtin.List.listSameRef, hne]
  have h2 : (Value.ref C == Value.type "list") = false := rfl
  have h3 : (Value.ref C == Value.type "tuple") = false := rfl
  simp only [h1, h2, h3, Bool.or_false, Bool.false_eq_true, if_false]
  refine wpAny_bind (PySem.W.owit_iter hF I2.ok.mod.kin J hs hfn ?_)
  have e0 : ∀ {s : Shared} {H : Hp}, Inv X pins σ H s → Env0 X.prog X.w X.K X.mg X.base X.A.in1.in1 X.stack s H := fun {s H} I => by
    have e := I.env0
    exact ⟨by rw [sb.fr]; exact e.frames, e.mod, e.bs, e.bsz, e.funs, e.frf, e.hok, e.bare⟩
  have hl := F.len _ _ _ _ hsp
  have r2 : Vals [V.ref a] [Value.ref a] := .cons rfl .nil
  refine wpAny_call (codeAny_mono (F.run X.A.in1.in1 X.stack _ _ ⟨[.ref a], []⟩ [.ref a] [.ref a] _ E sb.room (e0 I2) (by
    have := hb _ [.ref a] I2.kIn (by simpa using hl)
    simpa using this) r2 hsp) fun r s' hq' => ?_)
  cases r with
  | error e => exact hx pins σ _ _ e s' I2 hq'
  | ok fl =>
    cases fl with
    | next => exact False.elim hq'
    | brk => exact False.elim hq'
    | cont => exact False.elim hq'
    | ret u =>
      obtain ⟨v, H', I', rv, it, t, zs, ev, hit, ht, hqq, ⟨dx', fs', ha'⟩, hQ⟩ := I2.after hq'
      subst ev
      cases rv
      have hT : s'.TypeIs (.ref it) "tuple_iterator" := (itT_get I' hit).typeIs
      have hqi : q ≠ it := fun z => by
        rw [z, hit] at hqq
        exact (nomatch hqq)
      show wpAny _ _ (specialOf (.ref it) "__next__") _ _ _
      refine wpAny_specialOf hT slot_tupleiter_next.lookup ?_
      obtain ⟨mA', J', _⟩ := ins_get I'.hok ha'
      obtain ⟨od', J', _⟩ := J'.look
      refine wpAny_bind (wpAny_holding (hint_own n1 n2 I'.kIn J' ?_))
      have go : ∀ s'', Inv X pins σ H' s'' → codeAny (model X.prog X.w) X.A.in1 (.builtin "list.extend.loop" ⟨[.ref q, .ref it, .none], []⟩) (wants (fun r s₂ => r = .none ∧ EP X pins σ Q (.ref q) s₂) X.xe) s'' := fun s'' I'' =>
        loop_tup (t := t) (zs := zs) sb.room.hd hqi zs.length 0 H' s'' (by simp) (Nat.zero_le _) I'' hit ht (by rw [hqq]; rfl) fun s3 I3 => ⟨rfl, .ref q, _, I3, rfl, hQ⟩
      obtain ⟨z, its, k, r3, hl3, e3⟩ := I'.lstM hqq
      cases r3
      refine wpAny_ite_split (fun _ => ?_) (fun _ => wpAny_pure ⟨plainId_quiet PySem.F.plain_extend_loop _, go s' I'⟩)
      refine wpAny_bind (wpAny_rule ?_)
      refine wpAny_bind ?_
      show wpAny _ _ (updateSeq q (·.push .none) >>= fun _ => updateSeq q (·.pop)) _ _ _
      refine wpAny_bind (wpAny_updateSeq e3 rfl ?_)
      have I3 := I'.lset (f := (·.push Value.none)) (its' := [Value.none]) (ys := [.non]) (t' := s'.toks) hqq e3 (by simp) (.cons rfl .nil) (by rw [List.length_singleton, sizeLine_eq]; decide)
      obtain ⟨z4, its4, k4, r4, hl4, e4⟩ := I3.lstM upd_same
      obtain ⟨u4, rfl, ru4⟩ := r4.one
      refine wpAny_updateSeq e4 rfl ?_ (by show 1 ≤ sizeLine; rw [sizeLine_eq]; decide) (by show 0 ≤ sizeLine + 1; exact Nat.zero_le _)
      have I4 := I3.lset (f := (·.pop)) (its := [u4]) (its' := []) (ys := []) (t' := s'.toks) upd_same e4 (by rfl) .nil (Nat.zero_le _)
      rw [upd_upd] at I4
      have hH : upd H' q (.lst []) = H' := by
        funext b
        by_cases hb : b = q
        · rw [hb, upd_same, hqq]
        · rw [upd_ne hb]
      rw [hH] at I4
      exact wpAny_pure ⟨plainId_quiet PySem.F.plain_extend_loop _, go _ I4⟩
end
end XL
set_option Elab.async false
set_option linter.all false
set_option maxRecDepth 100000
set_option maxHeartbeats 4000000
/-! XOr: two rules for one piece of text; what classes say of an own error. -/
namespace XL
open PySem PySem.Spec PyProof.Rows L2
section
variable {X : Cx}
theorem pe_or {e : Expr} {t u : TE} (h : PE X e t) (k : PE X e u) : PE X e (fun σ H Q => t σ H Q ∨ u σ H Q) := ⟨fun pins s σ H Q I q => q.elim (h.run pins s σ H Q I) (k.run pins s σ H Q I)⟩
theorem pg_or {e : Expr} {t u : TG} (h : PG X e t) (k : PG X e u) : PG X e (fun v σ H Q => t v σ H Q ∨ u v σ H Q) := ⟨fun pins s σ H v w Q I r q => q.elim (h.run pins s σ H v w Q I r) (k.run pins s σ H v w Q I r)⟩
theorem cr_or {f : Value} {t u : List V → Hp → VK → Prop} (h : CallR X f t) (k : CallR X f u) : CallR X f (fun xs H Q => t xs H Q ∨ u xs H Q) := fun pins s σ H xs us Q I r q => q.elim (h pins s σ H xs us Q I r) (k pins s σ H xs us Q I r)
end
section
variable {P : Program} {w : World} {K : PySem.W.Frag} {mg : Str → Option Value} {base : Heap} {CX : CXT} {k : Nat} {f : Addr} {fd : FuncData} {ps : List Str} {sp sq : Sp}
theorem fn_or (h : FnOk P w K mg base CX k f fd ps sp) (h2 : FnOk P w K mg base CX k f fd ps sq) : FnOk P w K mg base CX k f fd ps (fun vs H Q E => sp vs H Q E ∨ sq vs H Q E) :=
  ⟨fun vs H Q E q => q.elim (h.len vs H Q E) (h2.len vs H Q E), fun A outer s H args us vs Q E hr he hb hv q => q.elim (h.run A outer s H args us vs Q E hr he hb hv) (h2.run A outer s H args us vs Q E hr he hb hv)⟩
end
theorem kit_of {K : PySem.W.Frag} {D C : Addr} {b : Bool} (hne : (Value.ref D == Value.ref C) = false) (h2 : PySem.W.isClsIn K C = true) (h3 : PySem.W.typeIn K (.ref C) = some (.type "type")) (h4 : PySem.W.subIn K (.ref D) (.ref C) = some b) : PySem.W.kitOne K (.ref D) (.ref C) = some b := by
  have e2 : ((PySem.W.clsIn K C).isSome && PySem.W.typeIn K (.ref C) == some (.type "type")) = true := by
    have h2' : (PySem.W.clsIn K C).isSome = true := h2
    rw [h2', h3]
    rfl
  show (if (Value.ref D == Value.ref C) = true then some true else (if ((PySem.W.clsIn K C).isSome && PySem.W.typeIn K (.ref C) == some (.type "type")) = true then PySem.W.subIn K (.ref D) (.ref C) else none)) = some b
  rw [if_neg (by rw [hne]; decide), if_pos e2]
  exact h4
theorem exm_of {K : PySem.W.Frag} {S : Addr} {cls : Value} {b : Bool} (h1 : PySem.W.subIn K (.ref S) (.type "BaseException") = some true) (h2 : PySem.W.isClsIn K S = true) (h3 : PySem.W.typeIn K (.ref S) = some (.type "type")) (h4 : PySem.W.subIn K cls (.ref S) = some b) : PySem.W.exmOne K cls (.ref S) = some b := by
  have e1 : (PySem.W.subIn K (.ref S) (.type "BaseException") == some true) = true := by rw [h1] <;> rfl
  have e2 : ((PySem.W.clsIn K S).isSome && PySem.W.typeIn K (.ref S) == some (.type "type")) = true := by
    have h2' : (PySem.W.clsIn K S).isSome = true := h2
    rw [h2', h3] <;> rfl
  show (if (PySem.W.subIn K (.ref S) (.type "BaseException") == some true) = true then (if ((PySem.W.clsIn K S).isSome && PySem.W.typeIn K (.ref S) == some (.type "type")) = true then PySem.W.subIn K cls (.ref S) else none) else none) = some b
  rw [if_pos e1, if_pos e2]
  exact h4
end XL
set_option Elab.async false
set_option linter.all false
set_option maxRecDepth 100000
set_option maxHeartbeats 4000000
/-! XTxt: texts of small letters; a name that is not used. -/
namespace XL
open PySem PySem.Spec PyProof.Rows L2
def LS : Str := "abcdefghijklmnopqrstuvwxyz"
structure Lt (a b : Nat) (z : Str) : Prop where
  lo : a ≤ z.length
  hi : z.length ≤ b
  ch : ∀ c ∈ z.cps.toList, c ∈ LS.cps.toList
theorem len_tl (z : Str) : z.length = z.cps.toList.length := by
  show z.cps.size = _
  rw [Array.length_toList]
theorem Lt.one {c : Nat} (h : c ∈ LS.cps.toList) : Lt 1 1 ⟨#[c]⟩ := ⟨Nat.le_refl _, Nat.le_refl _, fun d hd => by
  have : d = c := by simpa using hd
  rw [this]
  exact h⟩
theorem Lt.wide {a b a' b' : Nat} {z : Str} (h : Lt a b z) (h1 : a' ≤ a) (h2 : b ≤ b') : Lt a' b' z := ⟨Nat.le_trans h1 h.lo, Nat.le_trans h.hi h2, h.ch⟩
theorem app_len (x y : Str) : (x ++ y).length = x.length + y.length := Str.length_append x y
theorem app_tl (x y : Str) : (x ++ y).cps.toList = x.cps.toList ++ y.cps.toList := by
  rw [Str.cps_append]
  simp
theorem Lt.app {a b c d : Nat} {x y : Str} (h : Lt a b x) (k : Lt c d y) : Lt (a + c) (b + d) (x ++ y) := by
  have h1 := h.lo; have h2 := h.hi; have h3 := k.lo; have h4 := k.hi
  refine ⟨by rw [app_len]; omega, by rw [app_len]; omega, fun e he => ?_⟩
  rw [app_tl] at he
  rcases List.mem_append.mp he with z | z
  · exact h.ch e z
  · exact k.ch e z
theorem cut_mem {z : Str} {lo hi : Option Int} {c : Nat} (h : c ∈ (cutS z lo hi).cps.toList) : c ∈ z.cps.toList := by
  have h2 : c ∈ (z.cps.toList.drop (HT.sIx z.length 0 lo)).take (HT.sIx z.length z.length hi - HT.sIx z.length 0 lo) := by simpa [cutS] using h
  exact List.mem_of_mem_drop (List.mem_of_mem_take h2)
theorem cut_to_len (z : Str) (k : Nat) : (cutS z none (some (k : Int))).length = min k z.length := by
  rw [len_tl]
  show ((z.cps.toList.drop (HT.sIx z.length 0 none)).take (HT.sIx z.length z.length (some (k : Int)) - HT.sIx z.length 0 none)).toArray.toList.length = _
  rw [HT.sIx_nat, HT.sIx_none]
  rw [Nat.sub_zero, List.drop_zero, List.length_take, ← len_tl]
  omega
theorem cut_from_len (z : Str) (k : Nat) (h : k ≤ z.length) : (cutS z (some (k : Int)) none).length = z.length - k := by
  rw [len_tl]
  show ((z.cps.toList.drop (HT.sIx z.length 0 (some (k : Int)))).take (HT.sIx z.length z.length none - HT.sIx z.length 0 (some (k : Int)))).toArray.toList.length = _
  rw [HT.sIx_nat, HT.sIx_none, List.length_take, List.length_drop, ← len_tl]
  omega
theorem Lt.to {a b : Nat} {z : Str} (h : Lt a b z) (k : Nat) : Lt (min k a) (min k b) (cutS z none (some (k : Int))) := by
  have h1 := h.lo; have h2 := h.hi
  exact ⟨by rw [cut_to_len]; omega, by rw [cut_to_len]; omega, fun c hc => h.ch c (cut_mem hc)⟩
theorem joinL_nil : ∀ ps : List (List Nat), TL.joinL [] ps = ps.flatten
  | [] => rfl
  | [p] => by simp [TL.joinL]
  | p :: q :: r => by
    show p ++ ([] ++ TL.joinL [] (q :: r)) = _
    rw [joinL_nil (q :: r)]
    simp
theorem Lt.join {ys : List Str} (h : ∀ y ∈ ys, Lt 1 1 y) : Lt ys.length ys.length (Txt.join "" ys) := by
  have e : (Txt.join "" ys).cps.toList = (ys.map fun y => y.cps.toList).flatten := by
    rw [TL.join_eq]
    exact (TL.tl_join "" ys).trans (joinL_nil _)
  have el : ∀ {ys : List Str}, (∀ y ∈ ys, Lt 1 1 y) → ((ys.map fun y => y.cps.toList).flatten).length = ys.length := by
    intro ys
    induction ys with
    | nil => intro _; rfl
    | cons y r ih =>
      intro h
      have h1 := h y List.mem_cons_self
      have z := ih fun y hy => h y (List.mem_cons_of_mem _ hy)
      have l1 := h1.lo; have l2 := h1.hi
      rw [len_tl] at l1 l2
      rw [List.map_cons, List.flatten_cons, List.length_append, z, List.length_cons]
      omega
  have l := el h
  refine ⟨by rw [len_tl, e, l]; exact Nat.le_refl _, by rw [len_tl, e, l]; exact Nat.le_refl _, fun c hc => ?_⟩
  rw [e] at hc
  obtain ⟨p, hp, hcp⟩ := List.mem_flatten.mp hc
  obtain ⟨y, hy, rfl⟩ := List.mem_map.mp hp
  exact (h y hy).ch c hcp
theorem sum_ones : ∀ {ys : List Str}, (∀ y ∈ ys, Lt 1 1 y) → (ys.map (·.length)).sum = ys.length
  | [], _ => rfl
  | y :: r, h => by
    have h1 := h y List.mem_cons_self
    have z := sum_ones fun y hy => h y (List.mem_cons_of_mem _ hy)
    have l1 := h1.lo; have l2 := h1.hi
    rw [List.map_cons, List.sum_cons, z, List.length_cons]
    omega
/-! ### one that is not used -/
theorem nd_sub {α : Type} [DecidableEq α] : ∀ {xs ys : List α}, xs.Nodup → (∀ x ∈ xs, x ∈ ys) → xs.length ≤ ys.length
  | [], _, _, _ => Nat.zero_le _
  | x :: r, ys, nd, h => by
    have hx := h x List.mem_cons_self
    have nd' := List.nodup_cons.mp nd
    have z := nd_sub (ys := ys.erase x) nd'.2 fun y hy => (List.mem_erase_of_ne (fun e : y = x => nd'.1 (by rw [← e]; exact hy))).mpr (h y (List.mem_cons_of_mem _ hy))
    rw [List.length_erase_of_mem hx] at z
    have : 0 < ys.length := List.length_pos_of_mem hx
    rw [List.length_cons]
    omega
def letter (k : Nat) : Nat := LS.cps.toList.getD k 0
theorem letter_at {k : Nat} (h : k < 26) : LS.cps.toList[k]? = some (letter k) := by
  have z : ∀ j : Nat, j < 26 → LS.cps.toList[j]? = some (letter j) := by decide +kernel
  exact z k h
theorem letter_inj {i j : Nat} (hi : i < 26) (hj : j < 26) (h : letter i = letter j) : i = j := by
  have z : ∀ i : Nat, i < 26 → ∀ j : Nat, j < 26 → letter i = letter j → i = j := by decide +kernel
  exact z i hi j hj h
def tail2 (k : Nat) : Str := (⟨#[letter (k / 26)]⟩ : Str) ++ ⟨#[letter (k % 26)]⟩
theorem tail2_inj {p : Str} {i j : Nat} (hi : i < 676) (hj : j < 676) (h : p ++ tail2 i = p ++ tail2 j) : i = j := by
  have e := congrArg (fun z : Str => z.cps.toList) h
  simp only [app_tl, tail2] at e
  have e2 := List.append_cancel_left e
  have e3 : [letter (i / 26), letter (i % 26)] = [letter (j / 26), letter (j % 26)] := by simpa using e2
  injection e3 with h1 h2
  injection h2 with h2 _
  have a := letter_inj (by omega) (by omega) h1
  have b := letter_inj (by omega) (by omega) h2
  omega
theorem tail2_lt {k : Nat} (h : k < 676) : Lt 2 2 (tail2 k) :=
  (Lt.one (List.mem_of_getElem? (letter_at (by omega)))).app (Lt.one (List.mem_of_getElem? (letter_at (by omega))))
theorem unused (p : Str) (us : List Str) (h : us.length < 676) : ∃ k, k < 676 ∧ p ++ tail2 k ∉ us := by
  apply Classical.byContradiction
  intro no
  have all : ∀ z ∈ (List.range 676).map (fun k => p ++ tail2 k), z ∈ us := fun z hz => by
    obtain ⟨k, hk, rfl⟩ := List.mem_map.mp hz
    apply Classical.byContradiction
    intro q
    exact no ⟨k, List.mem_range.mp hk, q⟩
  have nd : ((List.range 676).map (fun k => p ++ tail2 k)).Nodup := by
    unfold List.Nodup
    rw [List.pairwise_map]
    refine List.Pairwise.imp_of_mem ?_ (List.nodup_range (n := 676))
    intro a b ha hb hab e
    exact hab (tail2_inj (List.mem_range.mp ha) (List.mem_range.mp hb) e)
  have z := nd_sub nd all
  rw [List.length_map, List.length_range] at z
  omega
theorem inV_str {x : Str} (xs : List Str) : inV (.str x) (xs.map V.str) = decide (x ∈ xs) := by
  unfold inV
  induction xs with
  | nil => rfl
  | cons y r ih =>
    rw [List.map_cons, List.any_cons, ih]
    show ((y == x) || decide (x ∈ r)) = decide (x ∈ y :: r)
    by_cases e : x = y
    · subst e; simp
    · have e2 : ¬ y = x := fun q => e q.symm
      simp [e, e2]
theorem strs_flat (xs : List Str) : (xs.map V.str).all flatV = true := by
  rw [List.all_eq_true]
  intro x hx
  obtain ⟨n, _, rfl⟩ := List.mem_map.mp hx
  rfl
end XL
set_option Elab.async false
set_option linter.all false
set_option maxRecDepth 100000
set_option maxHeartbeats 4000000
/-! XLine: C(*row), a method within a try, zip with K said, classes of an own error. -/
namespace XL
open PySem PySem.Spec PyProof.Rows L2
section
variable {X : Cx} {CX : CXT} {k : Nat} {f C : Addr} {fd : FuncData} {ps : List Str} {ds : List Value} {dvs : List V} {sp : Sp} {x m : Str} {p pos apos sp_ : Pos} {e o : Expr} {es : List Expr} {te ta : TE} {t : TA}
def tMakeS (K : PySem.W.Frag) (C : Addr) (sp : Sp) (dvs : List V) (E : XK) (te : TE) : TE := fun σ H Q => te σ H fun y H1 => ∃ a xs, y = V.ref a ∧ (SqT K H1 a xs ∨ SqL K H1 a xs) ∧
  ∀ x dx, H1 x = none → H1 dx = none → dx ≠ x → sp (.ref x :: (xs ++ dvs)) (upd (upd H1 dx (.own x)) x (.ins C dx [])) (fun v H2 => v = .non ∧ Q (.ref x) H2) E
/-- C(*row) -/
theorem pe_makeS {E : XK} (K : PySem.W.Frag) (M : Mk X.K C f) (F : FnOk X.prog X.w X.K X.mg X.base CX k f fd ps sp) (hr : Room (k + 1) X.A) (hg : Gl X x) (hm : X.mg x = some (.ref C)) (hb : Binds X.K fd ps ds) (hd : Vals dvs ds) (hx : Passes CX X E) (he : PE X e te) (hK : X.K = K := by rfl) (hdb : (x == ("__debug__" : Str)) = false := by decide)
    (hst : starEach [.Starred e sp_] X.env = [(true, eval e X.env)] := by rfl) : PE X (.Call (.Name x p) [.Starred e sp_] [] pos) (tMakeS K C sp dvs E te) := by
  subst hK
  refine ⟨fun pins s σ H Q I h => ?_⟩
  refine wpAny_Call_Name_kw (ld_glob I hg hm ?_ hdb)
  refine PySem.W.callWith_S (h₀ := X.base) I.ok.mod.kin M.kp (thn (he.run pins s σ H _ I h) fun v s1 ⟨y, H1, I1, ry, a, xs, ey, hxs, q⟩ => ?_) hst
  subst ey
  obtain rfl : v = Value.ref a := ry
  exact StX.star_any I1 hxs fun us s2 I2 rv => ⟨I2.kIn, run_make M F hr hb hd hx I2 rv q⟩
def tMethS (C : Addr) (m : Str) (sp : Sp) (E : L2.St → XK) (ta : TE) (t : TA) : TE := fun σ H Q => ta σ H fun x H1 => ∃ a dx fs, x = .ref a ∧ H1 a = some (.ins C dx fs) ∧ fs.lookup m = none ∧
  t σ H1 fun vs H2 => sp (x :: vs) H2 Q (E σ)
/-- o.m(..) within a try -/
theorem pe_methT {E : L2.St → XK} {pl : Sem Bool} (he : PE X o ta) (c : Cls X.K C) (hm : Meth X.K C m f) (F : FnOk X.prog X.w X.K X.mg X.base CX k f fd ps sp) (hr : Room k X.A) (hb : Binds X.K fd ps []) (hx : ∀ σ, PassesAt CX X σ (E σ)) (ha : PA X (e :: es) t)
    (hst : starEach (e :: es) X.env = (false, eval e X.env) :: starEach es X.env := by rfl) (hpl : (backTo pos (starEach es X.env)).any (·.1) = false := by rfl)
    (ht : eval (.Call (.Attribute o m apos) (e :: es) [] pos) X.env = (do
      let ov ← eval o X.env
      standAt apos.atName
      let (f, first) ← holding [ov] (getMethod ov m pl)
      callWith pos f first (backTo pos (starEach (e :: es) X.env)) (backToKw pos (keywordEach [] X.env))) := by rfl) :
    PE X (.Call (.Attribute o m apos) (e :: es) [] pos) (tMethS C m sp E ta t) := by
  refine ⟨fun pins s σ H Q I h => ?_⟩
  refine PySem.W.methodCall_KW (pl := pl) (thn (he.run pins s σ H _ I h) fun u s1 ⟨x, H1, I1, rx, a, dx, fs, ex, ea, l, q⟩ => ?_) ht
  subst ex
  obtain rfl : u = Value.ref a := rx
  refine getmeth_ok I1 ea c hm l ?_
  refine PySem.W.callWith_K (first := [.ref a]) (h₀ := X.base) I.ok.mod.kin hm.kp (thn (ha.run pos pins s1 σ H1 _ I1 q) fun us s2 ⟨vs, H2, I2, r, q2⟩ => ⟨I2.kIn, ?_⟩) hst hpl
  exact run_fnS (us := .ref a :: us) (vs := .ref a :: vs) (E := E) F hr hb (hx σ) I2 (.cons rfl r) q2
theorem pe_methT0 {E : L2.St → XK} {pl : Sem Bool} (he : PE X o ta) (c : Cls X.K C) (hm : Meth X.K C m f) (F : FnOk X.prog X.w X.K X.mg X.base CX k f fd ps sp) (hr : Room k X.A) (hb : Binds X.K fd ps []) (hx : ∀ σ, PassesAt CX X σ (E σ))
    (ht : eval (.Call (.Attribute o m apos) [] [] pos) X.env = (do
      let ov ← eval o X.env
      standAt apos.atName
      let (f, first) ← holding [ov] (getMethod ov m pl)
      callWith pos f first (backTo pos (starEach [] X.env)) (backToKw pos (keywordEach [] X.env))) := by rfl) :
    PE X (.Call (.Attribute o m apos) [] [] pos) (tMethS C m sp E ta tNil) := by
  refine ⟨fun pins s σ H Q I h => ?_⟩
  refine PySem.W.methodCall_KW (pl := pl) (thn (he.run pins s σ H _ I h) fun u s1 ⟨x, H1, I1, rx, a, dx, fs, ex, ea, l, q⟩ => ?_) ht
  subst ex
  obtain rfl : u = Value.ref a := rx
  refine getmeth_ok I1 ea c hm l ?_
  exact PySem.W.callWith_K0 (first := [.ref a]) I1.kIn hm.kp (run_fnS (us := [.ref a]) (vs := [.ref a]) (E := E) F hr hb (hx σ) I1 (.cons rfl .nil) q)
theorem pi_zipK {e e2 : Expr} {ta : TA} {p pos tpos : Pos} {elts : List Expr} {kk : Nat} (K : PySem.W.Frag) (hg : Gl X "zip") (hm : X.mg "zip" = none) (ha : PA X [e, e2] ta) (hK : X.K = K := by rfl)
    (hs : starEach [e, e2] X.env = (false, eval e X.env) :: starEach [e2] X.env := by rfl) (hpl : (backTo pos (starEach [e2] X.env)).any (·.1) = false := by rfl) :
    PI X (.Tuple elts kk tpos) (.Call (.Name "zip" p) [e, e2] [] pos) (iZip K ta) := hK ▸ pi_zip hg hm ha hs hpl
end
theorem kit_ty_of {K : PySem.W.Frag} {D : Addr} {T : String} {b : Bool} (h1 : PySem.W.kitMeta T = true) (h2 : PySem.W.subIn K (.ref D) (.type T) = some b) : PySem.W.kitOne K (.ref D) (.type T) = some b := by
  show (if (Value.ref D == Value.type T) = true then some true else (if PySem.W.kitMeta T = true then PySem.W.subIn K (.ref D) (.type T) else none)) = some b
  rw [if_neg (fun h => by cases h), if_pos h1]
  exact h2
end XL
set_option Elab.async false
set_option linter.all false
set_option maxRecDepth 100000
set_option maxHeartbeats 4000000
/-! XHot: a def that raises nothing and walks nothing, called within an except suite. -/
namespace XL
open PySem PySem.Spec PyProof.Rows L2 L2H
/-- what a def promises there -/
structure FnQ (P : Program) (w : World) (K : PySem.W.Frag) (mg : Str → Option Value) (base : Heap) (k : Nat) (f : Addr) (fd : FuncData) (ps : List Str) (sp : Sp) : Prop where
  len : ∀ vs H Q E, sp vs H Q E → vs.length = ps.length
  run : ∀ (A : Around) (outer : List Env) (s : Shared) (H : Hp) (args : Args) (us : List Value) (vs : List V) (Q : VK) (E : XK) (p : Addr × Obj), RoomH k A → PinOk outer H s p → Env0 P w K mg base A outer s H → BindsTo s fd args (ps.zip us) → Vals vs us → sp vs H Q E →
    codeAny (model P w) A (.call (.ref f) args) (CR CX0 outer P w H s Q E) s
theorem okQ {P : Program} {w : World} {K : PySem.W.Frag} {mg : Str → Option Value} {base : Heap} {x qual : Str} {st : Stmt} {f : Addr} {fd : FuncData} {N ps : List Str} {k : Nat} {sp : Sp} (F : Fun K x qual st f fd) (S : FnScope N ps (defScope st)) (len : ∀ vs H Q E, sp vs H Q E → vs.length = ps.length)
    (hbody : ∀ (cdv : Value) (A : Around) (outer : List Env) (s : Shared) (H : Hp) (vs : List V) (Q : VK) (E : XK) (p : Addr × Obj), RoomH k (A.deeper (envOfC qual (defScope st) s.heap.objs.size f cdv)) → sp vs H Q E →
      ∃ t, PSs (cxH CX0 P w K mg base N qual (defScope st) f cdv A outer s H E p) (defBody st) t ∧ t { nx := fun _ H' => Q .non H', rt := Q } (L2.start N vs) H) : FnQ P w K mg base (k + 1) f fd ps sp := by
  obtain ⟨oc, od, kV, doc, pm, an, cdv, ct, osl, rfl, lk, hcd⟩ := F.ex
  refine ⟨len, fun A outer s H args us vs Q E p hr hpin e0 hb r hsp => ?_⟩
  have hl := len _ _ _ _ hsp
  have KX : K.In s.heap := e0.mod.kin.keeps fun b o e => (e0.bs b o e).1
  have lim : s.heap.NoLimit := e0.mod.nolimit.keeps fun b o e => (e0.bs b o e).1
  have hkind : ∀ y ∈ ps.zip us, (defScope st).names.lookup y.1 = some .local ∨ ((defScope st).names.lookup y.1 = some .cell ∧ ((cellsFrom (s.heap.objs.size + 1) (defScope st).names []).lookup y.1).isSome = true) := fun ⟨n, v⟩ hy => by
    rcases S.par n (List.of_mem_zip hy).1 with q | q
    · exact .inl q
    · exact .inr ⟨q, PySem.W.cellsFrom_some _ _ _ (.inl q)⟩
  refine codeAny_call_function hr.depth (KX _ _ lk) rfl S.co S.gen rfl (PySem.W.codeRec_of KX hcd) (hb _ _ _ _ ?_)
  refine wpAny_newFunctionEnv_cells S.kind hkind fun env he s1 x => ?_
  subst he
  refine ⟨lim.keeps x.toInCall.keep, codeAny_func ?_⟩
  obtain ⟨t, ht, hq⟩ := hbody cdv A outer s H vs Q E p (hr.deeper _) hsp
  have I : Inv (cxH CX0 P w K mg base N qual (defScope st) f cdv A outer s H E p) [] (L2.start N vs) H s1 := inv_startH S hpin e0 hl r x
  refine wpAny_mono (ht.run [] s1 (L2.start N vs) H _ I hq) (fun fl s' hs => ?_) fun e s' hs => hs
  have fin : ∀ {σ' : L2.St} {H' : Hp} {v : V} {u : Value}, Inv (cxH CX0 P w K mg base N qual (defScope st) f cdv A outer s H E p) [] σ' H' s' → RelV v u → Q v H' → CE outer P w H s Q u s' :=
    fun {σ' H' v u} J rv q => ⟨v, H', J.os, J.bare, J.base, J.hok, rv, q⟩
  cases fl with
  | ret u =>
    obtain ⟨v, σ', H', J, rv, q⟩ := hs
    exact fin J rv q
  | next =>
    obtain ⟨σ', H', J, q⟩ := hs
    exact fin (v := V.non) (u := Value.none) J rfl q
  | brk =>
    obtain ⟨_, _, _, q⟩ := hs
    exact False.elim q
  | cont =>
    obtain ⟨_, _, _, q⟩ := hs
    exact False.elim q
section
variable {X : Cx} {k : Nat} {f : Addr} {fd : FuncData} {ps : List Str} {sp : Sp} {E : XK} {x : Str} {q pos : Pos} {e : Expr} {es : List Expr} {t : TA}
theorem pe_callQ (F : FnQ X.prog X.w X.K X.mg X.base k f fd ps sp) (hr : RoomH k X.A) (hc : ∃ p, p ∈ X.pn) (hg : Gl X x) (hm : X.mg x = some (.ref f)) (hk : PySem.W.keepIn X.K (.ref f) = true) (hb : Binds X.K fd ps []) (hx : Passes CX0 X E)
    (ha : PA X (e :: es) t) (hdb : (x == ("__debug__" : Str)) = false := by decide) (he : starEach (e :: es) X.env = (false, eval e X.env) :: starEach es X.env := by rfl) (hpl : (backTo pos (starEach es X.env)).any (·.1) = false := by rfl) :
    PE X (.Call (.Name x q) (e :: es) [] pos) (fun σ H Q => t σ H fun vs H1 => sp vs H1 Q E) := by
  refine ⟨fun pins s σ H Q I h => ?_⟩
  refine wpAny_Call_Name_kw (ld_glob I hg hm ?_ hdb)
  refine PySem.W.callWith_K (h₀ := X.base) I.ok.mod.kin hk (thn (ha.run pos pins s σ H _ I h) fun us s1 ⟨vs, H1, I1, r, q⟩ => ⟨I1.kIn, ?_⟩) he hpl
  obtain ⟨p, hp⟩ := hc
  have hl : us.length = ps.length := by rw [← r.length]; exact F.len _ _ _ _ q
  have b := hb s1 us I1.kIn (by rw [List.append_nil]; exact hl)
  rw [List.append_nil] at b
  have P1 := I1.pin p (List.mem_append_left _ hp)
  have hpin : PinOk X.stack H1 s1 p := ⟨P1.1, P1.2.1, fun hm => (List.mem_cons.mp (I1.stkSub p.1 hm)).elim P1.2.2.1 P1.2.2.2.1, P1.2.2.2.2⟩
  refine wpAny_call (codeAny_mono (F.run X.A X.stack s1 H1 ⟨us, []⟩ us vs Q E p hr hpin I1.env0 b r q) fun r s' hq => ?_)
  cases r with
  | error e => exact hx pins σ _ _ e s' I1 hq
  | ok fl =>
    cases fl with
    | ret u => exact I1.after hq
    | next => exact False.elim hq
    | brk => exact False.elim hq
    | cont => exact False.elim hq
end
theorem roomQ {X : Cx} {k j : Nat} {a : Addr} {pn : List (Addr × Obj)} (hr : Room k X.A) (h : j ≤ k) : RoomH j (X.suite a pn).A := ⟨(hr.mono h).dp, (hr.mono h).un⟩
end XL
set_option Elab.async false
set_option linter.all false
set_option maxRecDepth 100000
set_option maxHeartbeats 4000000
/-! XGuard: defs that are called while no repr is under way (Around.guards is known to be empty); repr of data there. -/
namespace XL
open PySem PySem.Spec PyProof.Rows L2
/-- what a def promises when no repr is under way -/
structure FnG (P : Program) (w : World) (K : PySem.W.Frag) (mg : Str → Option Value) (base : Heap) (CX : CXT) (k : Nat) (f : Addr) (fd : FuncData) (ps : List Str) (sp : Sp) : Prop where
  len : ∀ vs H Q E, sp vs H Q E → vs.length = ps.length
  run : ∀ (A : Around) (outer : List Env) (s : Shared) (H : Hp) (args : Args) (us : List Value) (vs : List V) (Q : VK) (E : XK), Room k A → A.guards = some [] → Env0 P w K mg base A outer s H → BindsTo s fd args (ps.zip us) → Vals vs us → sp vs H Q E →
    codeAny (model P w) A (.call (.ref f) args) (CR CX outer P w H s Q E) s
section
variable {P : Program} {w : World} {K : PySem.W.Frag} {mg : Str → Option Value} {base : Heap} {CX : CXT}
theorem FnG.of {k : Nat} {f : Addr} {fd : FuncData} {ps : List Str} {sp : Sp} (F : FnOk P w K mg base CX k f fd ps sp) : FnG P w K mg base CX k f fd ps sp := ⟨F.len, fun A outer s H args us vs Q E hr _ => F.run A outer s H args us vs Q E hr⟩
theorem fnG_of {x qual : Str} {st : Stmt} {f : Addr} {fd : FuncData} {N ps : List Str} {k : Nat} {sp : Sp} (F : Fun K x qual st f fd) (S : FnScope N ps (defScope st)) (len : ∀ vs H Q E, sp vs H Q E → vs.length = ps.length)
    (hbody : ∀ (cdv : Value) (A : Around) (outer : List Env) (s : Shared) (H : Hp) (vs : List V) (Q : VK) (E : XK), Room k (A.deeper (envOfC qual (defScope st) s.heap.objs.size f cdv)) → A.guards = some [] → sp vs H Q E →
      ∃ t, PSs (cxOf CX P w K mg base N qual (defScope st) f cdv A outer s H E) (defBody st) t ∧ t { nx := fun _ H' => Q .non H', rt := Q } (L2.start N vs) H) : FnG P w K mg base CX (k + 1) f fd ps sp := by
  obtain ⟨oc, od, kV, doc, pm, an, cdv, ct, osl, rfl, lk, hcd⟩ := F.ex
  refine ⟨len, fun A outer s H args us vs Q E hr hg e0 hb r hsp => ?_⟩
  have hl := len _ _ _ _ hsp
  have KX : K.In s.heap := e0.mod.kin.keeps fun b o e => (e0.bs b o e).1
  have lim : s.heap.NoLimit := e0.mod.nolimit.keeps fun b o e => (e0.bs b o e).1
  have hkind : ∀ y ∈ ps.zip us, (defScope st).names.lookup y.1 = some .local ∨ ((defScope st).names.lookup y.1 = some .cell ∧ ((cellsFrom (s.heap.objs.size + 1) (defScope st).names []).lookup y.1).isSome = true) := fun ⟨n, v⟩ hy => by
    rcases S.par n (List.of_mem_zip hy).1 with q | q
    · exact .inl q
    · exact .inr ⟨q, PySem.W.cellsFrom_some _ _ _ (.inl q)⟩
  refine codeAny_call_function hr.depth (KX _ _ lk) rfl S.co S.gen rfl (PySem.W.codeRec_of KX hcd) (hb _ _ _ _ ?_)
  refine wpAny_newFunctionEnv_cells S.kind hkind fun env he s1 x => ?_
  subst he
  refine ⟨lim.keeps x.toInCall.keep, codeAny_func ?_⟩
  obtain ⟨t, ht, hq⟩ := hbody cdv A outer s H vs Q E (hr.deeper _) hg hsp
  have I : Inv (cxOf CX P w K mg base N qual (defScope st) f cdv A outer s H E) [] (L2.start N vs) H s1 := inv_start S hr.hd e0 hl r x
  refine wpAny_mono (ht.run [] s1 (L2.start N vs) H _ I hq) (fun fl s' hs => ?_) fun e s' hs => hs
  cases fl with
  | ret u =>
    obtain ⟨v, σ', H', J, rv, q⟩ := hs
    exact ⟨v, H', J.os, J.bare, J.base, J.hok, rv, q⟩
  | next =>
    obtain ⟨σ', H', J, q⟩ := hs
    exact ⟨V.non, H', J.os, J.bare, J.base, J.hok, rfl, q⟩
  | brk =>
    obtain ⟨_, _, _, q⟩ := hs
    exact False.elim q
  | cont =>
    obtain ⟨_, _, _, q⟩ := hs
    exact False.elim q
/-- a def that raises nothing -/
theorem okG {x qual : Str} {st : Stmt} {f : Addr} {fd : FuncData} {N ps : List Str} {k : Nat} {sp : Sp} (F : Fun K x qual st f fd) (S : FnScope N ps (defScope st)) (len : ∀ vs H Q E, sp vs H Q E → vs.length = ps.length)
    (hbody : ∀ (cdv : Value) (A : Around) (outer : List Env) (s : Shared) (H : Hp) (vs : List V) (Q : VK) (E : XK), Room k (A.deeper (envOfC qual (defScope st) s.heap.objs.size f cdv)) → A.guards = some [] → sp vs H Q E →
      ∃ t, PSs (cxOf CX0 P w K mg base N qual (defScope st) f cdv A outer s H E).nox (defBody st) t ∧ t { nx := fun _ H' => Q .non H', rt := Q } (L2.start N vs) H) : FnG P w K mg base CX0 (k + 1) f fd ps sp :=
  fnG_of F S len fun cdv A outer s H vs Q E hr hg hsp => let ⟨t, h, q⟩ := hbody cdv A outer s H vs Q E hr hg hsp; ⟨t, h.nox, q⟩
end
section
variable {X : Cx} {CX : CXT} {k : Nat} {f : Addr} {fd : FuncData} {ps : List Str} {sp : Sp} {E : XK} {x : Str} {p pos : Pos} {e : Expr} {es : List Expr} {t : TA}
theorem run_fnG {pins : List (Addr × Obj)} {σ : L2.St} {H : Hp} {s : Shared} {Q : VK} {us : List Value} {vs : List V} (F : FnG X.prog X.w X.K X.mg X.base CX k f fd ps sp) (hr : Room k X.A) (hg : X.A.guards = some []) (hb : Binds X.K fd ps []) (hx : Passes CX X E)
    (I : Inv X pins σ H s) (r : Vals vs us) (h : sp vs H Q E) : wpAny (model X.prog X.w) X.A (call (.ref f) us) (EP X pins σ Q) X.xe s := by
  have hl : us.length = ps.length := by rw [← r.length]; exact F.len _ _ _ _ h
  have b := hb s us I.kIn (by rw [List.append_nil]; exact hl)
  rw [List.append_nil] at b
  refine wpAny_call (codeAny_mono (F.run X.A X.stack s H ⟨us, []⟩ us vs Q E hr hg I.env0 b r h) fun r s' hq => ?_)
  cases r with
  | error e => exact hx pins σ _ _ e s' I hq
  | ok fl =>
    cases fl with
    | ret u => exact I.after hq
    | next => exact False.elim hq
    | brk => exact False.elim hq
    | cont => exact False.elim hq
theorem pe_callG (F : FnG X.prog X.w X.K X.mg X.base CX k f fd ps sp) (hr : Room k X.A) (hg : X.A.guards = some []) (hgl : Gl X x) (hm : X.mg x = some (.ref f)) (hk : PySem.W.keepIn X.K (.ref f) = true) (hb : Binds X.K fd ps []) (hx : Passes CX X E)
    (ha : PA X (e :: es) t) (hdb : (x == ("__debug__" : Str)) = false := by decide) (he : starEach (e :: es) X.env = (false, eval e X.env) :: starEach es X.env := by rfl) (hpl : (backTo pos (starEach es X.env)).any (·.1) = false := by rfl) :
    PE X (.Call (.Name x p) (e :: es) [] pos) (fun σ H Q => t σ H fun vs H1 => sp vs H1 Q E) := by
  refine ⟨fun pins s σ H Q I h => ?_⟩
  refine wpAny_Call_Name_kw (ld_glob I hgl hm ?_ hdb)
  refine PySem.W.callWith_K (h₀ := X.base) I.ok.mod.kin hk (thn (ha.run pos pins s σ H _ I h) fun us s1 ⟨vs, H1, I1, r, q⟩ => ⟨I1.kIn, ?_⟩) he hpl
  exact run_fnG F hr hg hb hx I1 r q
theorem u70 {k : Nat} {A : Around} (r : Room k A) : A.units + 70 < cLine := by have := r.un; omega
/-- repr of data -/
def rRepr (K : PySem.W.Frag) : List V → Hp → VK → Prop := fun xs H Q => ∃ v d, xs = [v] ∧ Dp K H v d ∧ d.showable = true ∧ d.hasDict = false ∧ d.depth ≤ 64 ∧ d.shown.length ≤ sizeLine ∧ Q (.str d.shown) H
theorem call_reprG (K : PySem.W.Frag) (hg : X.A.guards = some []) (hu : X.A.units + 70 < cLine) (hK : X.K = K := by rfl) : CallR X (.builtin "repr") (rRepr K) := by
  subst hK
  intro pins s σ H xs us Q I r h
  obtain ⟨v, d, rfl, hd, h1, h2, h3, h4, q⟩ := h
  obtain ⟨u, rfl, ru⟩ : ∃ u, us = [u] ∧ RelV v u := by
    cases r with
    | cons a b =>
      cases b
      exact ⟨_, rfl, a⟩
  obtain ⟨as, rd⟩ := Dp.reads I d v u hd ru
  have big : ∀ a : Addr, u = .ref a → wpAny (model X.prog X.w) X.A (call (.builtin "repr") [u]) (EP X pins σ Q) X.xe s := by
    rintro a rfl
    exact repr_of_reads' rd h1 (PyData.noDict_hsm h2) hg (by omega) (fun _ _ e => e) (fun h' t tk hk => ⟨.str d.shown, H, I.kept hk, ⟨_, rfl⟩, q⟩) h4
  cases hd with
  | non =>
    cases ru
    exact PySem.P.repr_of_none ⟨.str _, H, I.tok _, ⟨_, rfl⟩, by simpa only [PyData.shown] using q⟩
  | bl b =>
    cases ru
    exact PySem.P.repr_of_bool ⟨.str _, H, I.tok _, ⟨_, rfl⟩, by simpa only [PyData.shown] using q⟩
  | int i =>
    obtain ⟨t, rfl⟩ := ru
    exact PySem.P.repr_of_int (by simpa [PyData.showable] using h1) ⟨.str _, H, I.tok _, ⟨_, rfl⟩, by simpa only [PyData.shown] using q⟩
  | str x =>
    obtain ⟨t, rfl⟩ := ru
    exact PySem.P.repr_of_str ⟨.str _, H, I.tok _, ⟨_, rfl⟩, by simpa only [PyData.shown] using q⟩ (by simpa only [PyData.shown] using h4)
  | lst _ _ => exact big _ ru
  | tup _ _ => exact big _ ru
end
/-! ### the law's own call -/
theorem law_callG {P : Program} {w : World} {K : PySem.W.Frag} {mg mb : Str → Option Value} {CX : CXT} {k : Nat} {fa a : Addr} {fd : FuncData} {x : Str} {sp : Sp} {s₁ : Shared} {vs : List Value} {ns : List Int}
    (KX : K.In s₁.heap) (hns : s₁.heap.Ns mainGlobals mg) (hb : s₁.heap.Ns builtinsNs mb) (hbb : ∀ x : Str, x ≠ "__name__" → mb x = bootBuiltins x) (hlim : s₁.heap.NoLimit) (hg : s₁.gens = #[])
    (ha : s₁.heap.get? a = some { cls := .type "list", data := .seq vs.toArray }) (hi : IntsAre vs ns) (hl : ns.length ≤ sizeLine) (hr : Room k callerA)
    (F : ∀ base : Heap, K.In base → base.Ns mainGlobals mg → FnG P w K mg base CX k fa fd [x] sp) (hbind : ∀ (s : Shared) (u : Value), BindsTo s fd ⟨[u], []⟩ [(x, u)])
    (hsp : ∀ H : Hp, Only H → SqL K H a (ns.map V.int) → sp [.ref a] H (fun v _ => v = .bl true) fun _ _ _ => False)
    (hCX : ∀ H e s', CX [] H s₁ (fun _ _ _ => False) e s' → False) :
    codeAny (model P w) callerA (.call (.ref fa) ⟨[.ref a], []⟩) (fun r s' => r = .ok (.ret (.bool true)) ∧ OldK s₁.heap s'.heap ∧ s'.os = s₁.os ∧ AllBare s'.gens) s₁ := by
  have rv := vals_ints hi
  have lenV := hi.length
  -- nothing is tracked but the script
  have main : ∀ H : Hp, (∀ b, H b = none ∨ (b = a ∧ K.lookup a = none ∧ H b = some (.frz { cls := .type "list", data := .seq vs.toArray } (.lst (ns.map V.int))))) → SqL K H a (ns.map V.int) → HOk P w H s₁.heap →
      codeAny (model P w) callerA (.call (.ref fa) ⟨[.ref a], []⟩) (fun r s' => r = .ok (.ret (.bool true)) ∧ OldK s₁.heap s'.heap ∧ s'.os = s₁.os ∧ AllBare s'.gens) s₁ := by
    intro H hH hS hok
    have nsK : ∀ {b : Addr} {m : Str → Option Value}, s₁.heap.Ns b m → (hidT s₁.heap H).Ns b m := fun {b m} ⟨o, es, ep, e, d, r⟩ => by
      refine ⟨o, es, ep, hidT_get e ?_, d, r⟩
      rcases hH b with z | ⟨z, _⟩
      · exact z
      · rw [z, ha] at e
        cases e
        cases d
    have hKb : K.In (hidT s₁.heap H) := fun b o e => hidT_get (KX b o e) (by
      rcases hH b with z | ⟨z, z2, _⟩
      · exact z
      · rw [z, z2] at e
        cases e)
    have hM : Mod K mg (hidT s₁.heap H) := ⟨hKb, nsK hns, ⟨mb, nsK hb, hbb⟩, let ⟨mc, h1, h2⟩ := hlim; ⟨mc, nsK h1, h2⟩⟩
    have e0 : Env0 P w K mg (hidT s₁.heap H) callerA [] s₁ H := ⟨rfl, hM, fun b o e => of_hidT e, Nat.le_of_eq (hidT_size _ _), trivial, fun b hb => (nomatch hb), hok, .of_eq hg⟩
    have hO : Only H := fun b => (hH b).imp id fun z => ⟨_, _, z.2.2⟩
    refine codeAny_mono ((F _ hKb (nsK hns)).run callerA [] s₁ H ⟨[.ref a], []⟩ [.ref a] [.ref a] _ _ hr rfl e0 (hbind s₁ (.ref a)) (.cons rfl .nil) (hsp H hO hS)) fun r s' h => ?_
    cases r with
    | error e => exact (hCX H e s' h).elim
    | ok fl =>
      cases fl with
      | next => exact False.elim h
      | brk => exact False.elim h
      | cont => exact False.elim h
      | ret u =>
        obtain ⟨v, H', os, bare, un, hok', r', q⟩ := h
        have q' : v = .bl true := q
        subst q'
        obtain rfl : u = Value.bool true := r'
        refine ⟨rfl, OldK.of_keep fun b o e => ?_, os, bare⟩
        rcases hH b with z | ⟨_, _, z⟩
        · exact un.keep b o e z (fun y => nomatch y) (by simp)
        · obtain ⟨e1, _⟩ := hok b _ z
          obtain ⟨e2, _⟩ := hok' b _ (un.frzs b _ _ z)
          rw [e] at e1
          cases e1
          exact e2
  cases hk : K.lookup a with
  | some o =>
    have e := KX a o hk
    rw [ha] at e
    cases e
    exact main (fun _ => none) (fun _ => .inl rfl) (.inr ⟨_, vs.toArray, _, hk, rfl, rfl, rfl, by rw [List.size_toArray, lenV]; exact hl, by simpa using rv⟩) (fun b u z => nomatch z)
  | none =>
    refine main (fun b => if b = a then some (.frz { cls := .type "list", data := .seq vs.toArray } (.lst (ns.map V.int))) else none) (fun b => ?_) (.inl (.inr ⟨{ cls := .type "list", data := .seq vs.toArray }, if_pos rfl⟩)) (fun b u z => ?_)
    · by_cases hb : b = a
      · exact .inr ⟨hb, hk, if_pos hb⟩
      · exact .inl (if_neg hb)
    · by_cases hb : b = a
      · have z' := (if_pos hb).symm.trans z
        cases z'
        subst hb
        exact ⟨ha, by rw [List.length_map]; exact hl, vs, _, rv, ha⟩
      · have z' := (if_neg hb).symm.trans z
        cases z'
theorem walk_ofG {l : PySem.W.OpenLaw} {n k : Nat} {q : Program} {loose : List Str} {XP : (Str → Option Value) → Heap → Prop} {YP : World → Heap → Prop} {d : DefRec} {K : Params → PySem.W.Frag} {CX : World → CXT} {sp : World → Sp} {x : Str}
    (hn : l.most = some n) (hn2 : n ≤ sizeLine) (hdf : d.params.defaults = []) (hr : Room k callerA)
    (hY : ∀ (w : World) (h : Heap), YP w h → (K w.params).In h)
    (F : ∀ (w : World) (mg : Str → Option Value) (fa : Addr) (h : Heap), (K w.params).In h → h.Ns mainGlobals mg → mg d.name = some (.ref fa) →
      ∃ fd : FuncData, (∀ (s : Shared) (u : Value), BindsTo s fd ⟨[u], []⟩ [(x, u)]) ∧
        ∀ base : Heap, (K w.params).In base → base.Ns mainGlobals mg → FnG l.prog w (K w.params) mg base (CX w) k fa fd [x] (sp w))
    (hsp : ∀ (w : World) (H : Hp) (a : Addr) (ns : List Int), ns.length ≤ n → Only H → SqL (K w.params) H a (ns.map V.int) → sp w [.ref a] H (fun v _ => v = .bl true) fun _ _ _ => False)
    (hCX : ∀ (w : World) (H : Hp) (s : Shared) (e : Value) (s' : Shared), CX w [] H s (fun _ _ _ => False) e s' → False) :
    PySem.W.WalkO q loose XP YP l.row.toRowW d [] (fun f vs => PySem.call f vs) := by
  refine Att.attach_call hn hdf fun w s₀ s₁ mg mb fa o pm cd doc a vs ns G Y ho hd hcd hmg hobj hints hlen hg => ?_
  have KX := hY w _ Y
  obtain ⟨fd, hb, hF⟩ := F w mg fa _ KX G.T.g hmg
  exact law_callG KX G.T.g G.T.b G.T.builtins G.T.nolimit hg hobj hints (Nat.le_trans hlen hn2) hr hF hb (fun H hO hS => hsp w H a ns hlen hO hS) fun H e s' => hCX w H s₁ e s'
end XL
set_option Elab.async false
set_option linter.all false
set_option maxRecDepth 100000
set_option maxHeartbeats 4000000
/-! XStar: defs with a star parameter, called with plain arguments. -/
namespace XL
open PySem PySem.Spec PyProof.Rows L2
/-! ### list.extend of a tuple -/
theorem ext_tup (l : Addr) (items : Array Value) (n : Nat) (b : Addr) (items2 : Array Value) (n2 : Nat) (dc : Option Addr) (sl : Array (Option Value)) (hs0 : ¬(!items.isEmpty && Builtin.List.listTooLong (items.size + items2.size)) = true) (hs1 : items.size ≤ sizeLine) (hs2 : items.size + items2.size ≤ sizeLine + 1) :
    Meets (Builtin.«list.extend» ⟨[.ref l, .ref b], []⟩) (fun _ R s => s.heap.get? l = some { cls := .type "list", dict := none, data := .seq items n, slots := #[] } ∧ s.heap.get? b = some { cls := .type "tuple", dict := dc, data := .seq items2 n2, slots := sl } ∧ R (.ok (.ret Value.none)) { s with heap := s.heap.update l (Obj.mapSeq fun x => x ++ items2), toks := s.toks }) :=
  .of_wp fun prog w A R s h => by
    obtain ⟨hp, g, d, tk, os⟩ := s
    obtain ⟨hl, hb, h⟩ := h
    have f1 := AutoSeq1.idx_int; have f2 := AutoSeq1.sub_tuple_tuple; have f3 := AutoSeq1.sub_list_list; have f4 := AutoSeq1.sub_tuple_list; have f5 := AutoSeq1.sub_list_tuple
    have hz' : (items ++ items2).size ≤ sizeLine + 1 := by rw [Array.size_append]; exact hs2
    wp_walk using (wpAny_updateSeq hl rfl (hz := hs1) (_hz' := hz')), wpAny_loadPart' hl, wpAny_loadPart' hb
    exact ⟨_, rfl, h⟩
def rExtT (K : PySem.W.Frag) : V → List V → Hp → VK → Prop := fun x vs H Q => ∃ l b xs zs, x = .ref l ∧ vs = [.ref b] ∧ H l = some (.lst xs) ∧ SqT K H b zs ∧ xs.length + zs.length ≤ sizeLine ∧ Q .non (upd H l (.lst (xs ++ zs)))
theorem mt_extT {X : Cx} (K : PySem.W.Frag) (hK : X.K = K := by rfl) : MtM X "list.extend" (rExtT K) := by
  subst hK
  intro pins s σ H x vs v us Q I rx rv h
  obtain ⟨l, b, xs, zs, rfl, rfl, hH, hB, hz, q⟩ := h
  cases rx
  obtain ⟨u, rfl, ru⟩ := rv.one
  cases ru
  obtain ⟨z, its, n, r, hl, e⟩ := I.lstM hH
  obtain ⟨its2, r2, ⟨o2, e2, c2, n2, d2⟩, z2⟩ := I.tuple hB
  have hl2 := r2.length
  obtain ⟨oc, od, odt, osl⟩ := o2
  simp only at c2 d2
  subst c2 d2
  have hsz : its.toArray.size + its2.toArray.size ≤ sizeLine := by rw [List.size_toArray, List.size_toArray]; omega
  have hlong : ¬ (!its.toArray.isEmpty && Builtin.List.listTooLong (its.toArray.size + its2.toArray.size)) = true := by
    rw [notLongL hsz, Bool.and_false]
    exact Bool.false_ne_true
  refine call_meets F.slot_list_extend ⟨_, e, rfl⟩ F.entry_list_extend (F.args_list_extend_2 _ _)
    (ext_tup l its.toArray n b its2.toArray n2 od osl hlong (by rw [List.size_toArray]; omega) (by omega)) ⟨e, e2, ?_⟩
  refine ⟨.non, _, I.lset (its' := its ++ its2) hH e (by simp) (r.append r2) ?_, rfl, q⟩
  rw [List.length_append]
  omega
/-- what a def with a star parameter binds -/
def BindsS (fd : FuncData) (ps : List Str) (pv : Str) : Prop := ∀ us rest : List Value, us.length = ps.length → bindArgs fd ⟨us ++ rest, []⟩ = (newTuple rest >>= fun t => pure (ps.zip us ++ [(pv, t)]))
/-- the promise of a def with a star parameter, from that of its body -/
def spS (n : Nat) (sp : Sp) : Sp := fun vs H Q E => ∃ ws rest, vs = ws ++ rest ∧ ws.length = n ∧ rest.length ≤ sizeLine ∧ ∀ p, H p = Option.none → sp (ws ++ [V.ref p]) (upd H p (.tup rest)) Q E
section
variable {P : Program} {w : World} {K : PySem.W.Frag} {mg : Str → Option Value} {base : Heap}
theorem okS {x qual : Str} {st : Stmt} {f : Addr} {fd : FuncData} {N ps : List Str} {pv : Str} {k : Nat} {sp : Sp} (F : Fun K x qual st f fd) (S : FnScope N (ps ++ [pv]) (defScope st)) (hb : BindsS fd ps pv)
    (hbody : ∀ (cdv : Value) (A : Around) (outer : List Env) (s : Shared) (H : Hp) (vs : List V) (Q : VK) (E : XK), Room k (A.deeper (envOfC qual (defScope st) s.heap.objs.size f cdv)) → sp vs H Q E →
      ∃ t, PSs (cxOf CX0 P w K mg base N qual (defScope st) f cdv A outer s H E).nox (defBody st) t ∧ t { nx := fun _ H' => Q .non H', rt := Q } (L2.start N vs) H) : FnR P w K mg base CX0 (k + 1) f (spS ps.length sp) := by
  obtain ⟨oc, od, kV, doc, pm, an, cdv, ct, osl, rfl, lk, hcd⟩ := F.ex
  refine StX.fn_star (pv := pv) (ps := ps) lk hcd S StX.cxUp_none hb fun A outer s H vs Q E hr hsp => ?_
  obtain ⟨t, h, q⟩ := hbody cdv A outer s H vs Q E hr hsp
  exact ⟨t, h.nox, q⟩
end
section
variable {X : Cx} {CX : CXT} {k : Nat} {f : Addr} {sp : Sp} {E : XK} {x : Str} {p pos : Pos} {e : Expr} {es : List Expr} {t : TA}
/-- x(e, ..) by a positional promise -/
theorem pe_callP (F : FnR X.prog X.w X.K X.mg X.base CX k f sp) (hr : Room k X.A) (hgl : Gl X x) (hm : X.mg x = some (.ref f)) (hk : PySem.W.keepIn X.K (.ref f) = true) (hx : Passes CX X E)
    (ha : PA X (e :: es) t) (hdb : (x == ("__debug__" : Str)) = false := by decide) (he : starEach (e :: es) X.env = (false, eval e X.env) :: starEach es X.env := by rfl) (hpl : (backTo pos (starEach es X.env)).any (·.1) = false := by rfl) :
    PE X (.Call (.Name x p) (e :: es) [] pos) (fun σ H Q => t σ H fun vs H1 => sp vs H1 Q E) := by
  refine ⟨fun pins s σ H Q I h => ?_⟩
  refine wpAny_Call_Name_kw (ld_glob I hgl hm ?_ hdb)
  refine PySem.W.callWith_K (h₀ := X.base) I.ok.mod.kin hk (thn (ha.run pos pins s σ H _ I h) fun us s1 ⟨vs, H1, I1, r, q⟩ => ⟨I1.kIn, ?_⟩) he hpl
  exact wpAny_call (run_fnR F hr hx I1 r q)
/-- x() -/
theorem pe_callP0 (F : FnR X.prog X.w X.K X.mg X.base CX k f sp) (hr : Room k X.A) (hgl : Gl X x) (hm : X.mg x = some (.ref f)) (hk : PySem.W.keepIn X.K (.ref f) = true) (hx : Passes CX X E) (hdb : (x == ("__debug__" : Str)) = false := by decide) :
    PE X (.Call (.Name x p) [] [] pos) (fun _ H Q => sp [] H Q E) := by
  refine ⟨fun pins s σ H Q I h => ?_⟩
  refine wpAny_Call_Name_kw (ld_glob I hgl hm ?_ hdb)
  exact PySem.W.callWith_K0 I.kIn hk (wpAny_call (run_fnR (us := []) F hr hx I .nil h))
end
section
variable {B : List Value → Sem (List (Str × Value))} {p1 p2 p3 p4 pv : Str}
theorem bindS0 (h0 : B [] = (newTuple [] >>= fun t => pure [(pv, t)])) (h1 : ∀ r rs, B (r :: rs) = (newTuple (r :: rs) >>= fun t => pure [(pv, t)])) :
    ∀ us rest : List Value, us.length = ([] : List Str).length → B (us ++ rest) = (newTuple rest >>= fun t => pure (([] : List Str).zip us ++ [(pv, t)]))
  | [], [], _ => h0
  | [], r :: rs, _ => h1 r rs
theorem bindS1 (h0 : ∀ a, B [a] = (newTuple [] >>= fun t => pure [(p1, a), (pv, t)])) (h1 : ∀ a r rs, B (a :: r :: rs) = (newTuple (r :: rs) >>= fun t => pure [(p1, a), (pv, t)])) :
    ∀ us rest : List Value, us.length = [p1].length → B (us ++ rest) = (newTuple rest >>= fun t => pure ([p1].zip us ++ [(pv, t)]))
  | [a], [], _ => h0 a
  | [a], r :: rs, _ => h1 a r rs
theorem bindS4 (h0 : ∀ a b c d, B [a, b, c, d] = (newTuple [] >>= fun t => pure [(p1, a), (p2, b), (p3, c), (p4, d), (pv, t)])) (h1 : ∀ a b c d r rs, B (a :: b :: c :: d :: r :: rs) = (newTuple (r :: rs) >>= fun t => pure [(p1, a), (p2, b), (p3, c), (p4, d), (pv, t)])) :
    ∀ us rest : List Value, us.length = [p1, p2, p3, p4].length → B (us ++ rest) = (newTuple rest >>= fun t => pure ([p1, p2, p3, p4].zip us ++ [(pv, t)]))
  | [a, b, c, d], [], _ => h0 a b c d
  | [a, b, c, d], r :: rs, _ => h1 a b c d r rs
end
end XL
set_option Elab.async false
set_option linter.all false
set_option maxRecDepth 100000
set_option maxHeartbeats 4000000
/-! XTree: t[::-1] of a tuple; == of data of more levels; objects whose own __iter__ hands on iter(l), l a list. -/
namespace XL
open PySem PySem.Spec PyProof.Rows L2
section
variable {prog : Program} {w : World} {A : Around} {E : Value → Shared → Prop} {s : Shared}
theorem applied_rev {sl : Addr} {t : Tok} {n : Nat} {Q : Int × Int × Nat → Shared → Prop} (hs : s.heap.IsSliceOf sl .none .none (.int (-1) t)) (h : Q ((n : Int) - 1, -1, n) s) :
    wpAny (model prog w) A (Builtin.Slice.sliceApplied (.ref sl) (pure (n : Int))) Q E s := by
  obtain ⟨os, hos, hcs, hds⟩ := id hs
  unfold Builtin.Slice.sliceApplied Builtin.Slice.sliceFields
  refine wpAny_bind (wpAny_bind (wpAny_field hos hds (x := .none) rfl (wpAny_bind (wpAny_field hos hds (x := .none) rfl (wpAny_bind (wpAny_field hos hds (x := .int (-1) t) rfl (wpAny_pure ?_)))))))
  refine wpAny_bind (HT.slicePart_ (.int (-1) t) ?_)
  show wpAny _ _ (if ((-1 : Int) == 0) = true then _ else _) _ _ s
  rw [if_neg (by decide)]
  refine wpAny_bind (HT.slicePart_ .none (wpAny_bind (HT.slicePart_ .none (wpAny_bind (wpAny_pure ?_)))))
  show wpAny _ _ (pure ((n : Int) - 1, (-1 : Int), Builtin.Slice.slicePlaces ((n : Int) - 1) (-1) (-1))) _ _ s
  have e : Builtin.Slice.slicePlaces ((n : Int) - 1) (-1) (-1) = n := by
    unfold Builtin.Slice.slicePlaces
    have h1 : ¬ ((-1 : Int) > 0) := by decide
    simp only [h1, if_false]
    split
    · rw [show (- -1 : Int) = 1 by decide, Int.ediv_one]
      omega
    · omega
  rw [e]
  exact wpAny_pure h
theorem fm_congr {α β : Type} {f g : α → Option β} : ∀ {l : List α}, (∀ x ∈ l, f x = g x) → l.filterMap f = l.filterMap g
  | [], _ => rfl
  | x :: l, h => by
    rw [List.filterMap_cons, List.filterMap_cons, h x List.mem_cons_self, fm_congr (l := l) fun y hy => h y (List.mem_cons_of_mem _ hy)]
theorem pick_rev (xs : Array Value) : ((List.range xs.size).filterMap fun (k : Nat) => xs[(((xs.size : Int) - 1) + (k : Int) * (-1)).toNat]?).toArray = xs.toList.reverse.toArray := by
  have z := PySem.W.krv_pick xs
  rw [← z]
  unfold slicePick
  rw [PySem.W.krv_bounds]
  show _ = ((sliceRange ((xs.size : Int) - 1) (-1) (-1)).filterMap (xs[·]?)).toArray
  rw [PySem.W.krv_sliceRange, List.filterMap_map]
  congr 1
  refine fm_congr fun k hk => ?_
  have := List.mem_range.mp hk
  have e : (((xs.size : Int) - 1) + (k : Int) * (-1)).toNat = xs.size - 1 - k := by omega
  show xs[_]? = xs[xs.size - 1 - k]?
  rw [e]
theorem getItem_tuple_rev {t sl : Addr} {tk : Tok} {items : Array Value} {Q : Value → Shared → Prop} (ht : IsTup s.heap t items) (hs : s.heap.IsSliceOf sl .none .none (.int (-1) tk))
    (h : Q (.ref s.heap.objs.size) { s with heap := s.heap.push { cls := .type "tuple", data := .seq items.toList.reverse.toArray } }) (hsz : items.size ≤ sizeLine) : wpAny (model prog w) A (getItem (.ref t) (.ref sl)) Q E s := by
  have htake : sizeOk (.seq items.toList.reverse.toArray) := by
    show items.toList.reverse.toArray.size ≤ sizeLine
    rw [List.size_toArray, List.length_reverse, Array.length_toList]
    exact hsz
  obtain ⟨os, hos, hcs, hds⟩ := id hs
  have hTs : s.TypeIs (.ref sl) "slice" := ⟨os, hos, hcs⟩
  unfold getItem
  try with_reducible refine wpAny_holding ?_
  first | refine wpAny_bind (wpAny_pure ?_) | skip
  refine wpAny_bind (wpAny_sequenceKey ht.typeIs (by decide) ?_)
  refine wpAny_bind (wpAny_callSpecial?_slot (name := Str.ofString "__getitem__") ht.typeIs PyProof.Rows.slot_tuple_getitem
    (wpAny_call_entry PyProof.Rows.slot_tuple_getitem ht.typeIs entry_tuple_getitem ?_ (args_tuple_getitem _ _)))
  show wpAny _ _ (Builtin.Tuple.tupleItemsOf (.ref t) >>= _) _ _ s
  refine wpAny_bind (tupleItemsOf_ ht ?_)
  refine wpAny_bind (wpAny_typeOf hTs ?_)
  rw [if_pos (by decide)]
  refine wpAny_bind (applied_rev hs ?_)
  have hno : ¬ (((items.size : Int) - 1 == 0 && (-1 : Int) == 1 && items.size == items.size) = true) := by
    intro q
    rw [Bool.and_eq_true, Bool.and_eq_true] at q
    exact absurd q.1.2 (by decide)
  show wpAny _ _ (if ((items.size : Int) - 1 == 0 && (-1 : Int) == 1 && items.size == items.size) = true then _ else _) _ _ s
  rw [if_neg hno, pick_rev]
  first
    | exact wpAny_bind (m := Builtin.Tuple.tupleExact _) (wpAny_newObj_type (wpAny_pure ⟨_, rfl, wpAny_pure h⟩) htake)
    | exact wpAny_bind (m := Builtin.Tuple.tupleExact _) (wpAny_newObj_type (wpAny_bind (wpAny_pure (wpAny_pure ⟨_, rfl, wpAny_pure h⟩))) htake)
    | exact wpAny_bind (wpAny_bind (m := Builtin.Tuple.tupleExact _) (wpAny_newObj_type (wpAny_pure (wpAny_pure ⟨_, rfl, wpAny_pure h⟩)) htake))
    | exact wpAny_bind (wpAny_bind (m := Builtin.Tuple.tupleExact _) (wpAny_newObj_type (wpAny_pure ⟨_, rfl, wpAny_pure h⟩) htake))
end
def tRevT (K : PySem.W.Frag) (te : TE) : TE := fun σ H Q => te σ H fun x H1 => ∃ a xs, x = .ref a ∧ SqT K H1 a xs ∧ ∀ p, H1 p = none → Q (.ref p) (upd H1 p (.tup xs.reverse))
theorem pe_revT {X : Cx} {e m : Expr} {te : TE} {p2 pos : Pos} (he : PE X e te) (hm : PE X m (tC (.int (-1)))) : PE X (.Subscript e (.Slice none none (some m) p2) pos) (tRevT X.K te) := by
  refine ⟨fun pins s σ H Q I h => ?_⟩
  refine Subscript_ (thn (he.run pins s σ H _ I h) fun v s1 ⟨x, H1, I1, r1, q1⟩ => ?_)
  refine wpAny_Slice (wpAny_evalPart_none (wpAny_evalPart_none (wpAny_evalPart_some (thn (hm.run pins s1 σ H1 (fun y H2 => y = .int (-1) ∧ H2 = H1) I1 ⟨rfl, rfl⟩) fun vm s3 ⟨y, H3, I3, r3, ey, eH⟩ => ?_))))
  subst ey eH
  obtain ⟨t, rfl⟩ := r3
  obtain ⟨a, xs, rfl, hx, q⟩ := q1
  cases r1
  have I4 : L2.Inv X pins σ H3 { s3 with heap := s3.heap.push { cls := .type "slice", data := .fields #[.none, .none, .int (-1) t] } } := I3.kept (t' := s3.toks) fun b ob q => Heap.get?_push_of_some _ q
  obtain ⟨its, r, ht, hz⟩ := I4.tuple hx
  have hlen := r.length
  show wpAny (model X.prog X.w) X.A (subscriptTail e (.Slice none none (some m) p2) (.ref a) (.ref s3.heap.objs.size)) (EP X pins σ Q) X.xe { s3 with heap := s3.heap.push { cls := .type "slice", data := .fields #[.none, .none, .int (-1) t] } }
  refine tail_any (ops := [.ref a, .ref s3.heap.objs.size]) ht.typeIs PyProof.Rows.slot_tuple_getitem.lookup ?_ (by with_unfolding_all rfl)
  refine getItem_tuple_rev ht (Heap.IsSliceOf.new ..) ?_ (by rw [List.size_toArray] <;> omega)
  refine ⟨.ref _, _, I4.laid (t' := s3.toks) (o := .tup xs.reverse) (fun b ob q => Heap.get?_push_of_some _ q) (Nat.le_refl _) ?_, rfl, q _ (I4.hok.fresh (Nat.le_refl _))⟩
  exact ⟨by rw [List.length_reverse]; exact hz, its.reverse, r.reverse, ⟨_, Heap.get?_push_size _ rfl, rfl, _, rfl⟩⟩
theorem pe_revTK {X : Cx} {e m : Expr} {te : TE} {p2 pos : Pos} (K : PySem.W.Frag) (he : PE X e te) (hm : PE X m (tC (.int (-1)))) (h : X.K = K := by rfl) : PE X (.Subscript e (.Slice none none (some m) p2) pos) (tRevT K te) := h ▸ pe_revT he hm
/-! ### == of data of up to 190 levels -/
def rEqL (K : PySem.W.Frag) : R2 := fun x y H Q => ∃ d e, Dp K H x d ∧ Dp K H y e ∧ d.canLay0 = true ∧ e.canLay0 = true ∧ d.depth ≤ 190 ∧ Q (.bl (PyData.eqv d e)) H
theorem op_eqL {X : Cx} (K : PySem.W.Frag) (hu : X.A.units + 190 < cLine) (hK : X.K = K := by rfl) : OpR X (compareOp .Eq) (rEqL K) := by
  subst hK
  intro pins s σ H x y v u Q I rx ry h
  obtain ⟨d, e, hd, he, sd, se, dp, q⟩ := h
  obtain ⟨as, r1⟩ := Dp.reads I d x v hd rx
  obtain ⟨bs, r2⟩ := Dp.reads I e y u he ry
  exact SeqAt.compareEq_reads r1 r2 sd se (by have := Nat.min_le_left d.depth e.depth; omega) ⟨.bl _, H, I, rfl, q⟩
/-! ### a promise that knows how large the heap was -/
structure FnY (P : Program) (w : World) (K : PySem.W.Frag) (mg : Str → Option Value) (base : Heap) (CX : CXT) (k : Nat) (f : Addr) (fd : FuncData) (ps : List Str) (sp : Nat → Sp) : Prop where
  len : ∀ n vs H Q E, sp n vs H Q E → vs.length = ps.length
  run : ∀ (A : Around) (outer : List Env) (s : Shared) (H : Hp) (args : Args) (us : List Value) (vs : List V) (Q : VK) (E : XK), Room k A → Env0 P w K mg base A outer s H → BindsTo s fd args (ps.zip us) → Vals vs us → sp s.heap.objs.size vs H Q E →
    codeAny (model P w) A (.call (.ref f) args) (CR CX outer P w H s Q E) s
section
variable {P : Program} {w : World} {K : PySem.W.Frag} {mg : Str → Option Value} {base : Heap} {CX : CXT}
theorem fnY_of {x qual : Str} {st : Stmt} {f : Addr} {fd : FuncData} {N ps : List Str} {k : Nat} {sp : Nat → Sp} (F : Fun K x qual st f fd) (S : FnScope N ps (defScope st)) (len : ∀ n vs H Q E, sp n vs H Q E → vs.length = ps.length)
    (hbody : ∀ (cdv : Value) (A : Around) (outer : List Env) (s : Shared) (H : Hp) (vs : List V) (Q : VK) (E : XK), Room k (A.deeper (envOfC qual (defScope st) s.heap.objs.size f cdv)) → sp s.heap.objs.size vs H Q E →
      ∃ t, PSs (cxOf CX P w K mg base N qual (defScope st) f cdv A outer s H E) (defBody st) t ∧ t { nx := fun _ H' => Q .non H', rt := Q } (L2.start N vs) H) : FnY P w K mg base CX (k + 1) f fd ps sp := by
  obtain ⟨oc, od, kV, doc, pm, an, cdv, ct, osl, rfl, lk, hcd⟩ := F.ex
  refine ⟨len, fun A outer s H args us vs Q E hr e0 hb r hsp => ?_⟩
  have hl := len _ _ _ _ _ hsp
  have KX : K.In s.heap := e0.mod.kin.keeps fun b o e => (e0.bs b o e).1
  have lim : s.heap.NoLimit := e0.mod.nolimit.keeps fun b o e => (e0.bs b o e).1
  have hkind : ∀ y ∈ ps.zip us, (defScope st).names.lookup y.1 = some .local ∨ ((defScope st).names.lookup y.1 = some .cell ∧ ((cellsFrom (s.heap.objs.size + 1) (defScope st).names []).lookup y.1).isSome = true) := fun ⟨n, v⟩ hy => by
    rcases S.par n (List.of_mem_zip hy).1 with q | q
    · exact .inl q
    · exact .inr ⟨q, PySem.W.cellsFrom_some _ _ _ (.inl q)⟩
  refine codeAny_call_function hr.depth (KX _ _ lk) rfl S.co S.gen rfl (PySem.W.codeRec_of KX hcd) (hb _ _ _ _ ?_)
  refine wpAny_newFunctionEnv_cells S.kind hkind fun env he s1 x => ?_
  subst he
  refine ⟨lim.keeps x.toInCall.keep, codeAny_func ?_⟩
  obtain ⟨t, ht, hq⟩ := hbody cdv A outer s H vs Q E (hr.deeper _) hsp
  have I : Inv (cxOf CX P w K mg base N qual (defScope st) f cdv A outer s H E) [] (L2.start N vs) H s1 := inv_start S hr.hd e0 hl r x
  refine wpAny_mono (ht.run [] s1 (L2.start N vs) H _ I hq) (fun fl s' hs => ?_) fun e s' hs => hs
  cases fl with
  | ret u =>
    obtain ⟨v, σ', H', J, rv, q⟩ := hs
    exact ⟨v, H', J.os, J.bare, J.base, J.hok, rv, q⟩
  | next =>
    obtain ⟨σ', H', J, q⟩ := hs
    exact ⟨V.non, H', J.os, J.bare, J.base, J.hok, rfl, q⟩
  | brk =>
    obtain ⟨_, _, _, q⟩ := hs
    exact False.elim q
  | cont =>
    obtain ⟨_, _, _, q⟩ := hs
    exact False.elim q
theorem okY {x qual : Str} {st : Stmt} {f : Addr} {fd : FuncData} {N ps : List Str} {k : Nat} {sp : Nat → Sp} (F : Fun K x qual st f fd) (S : FnScope N ps (defScope st)) (len : ∀ n vs H Q E, sp n vs H Q E → vs.length = ps.length)
    (hbody : ∀ (cdv : Value) (A : Around) (outer : List Env) (s : Shared) (H : Hp) (vs : List V) (Q : VK) (E : XK), Room k (A.deeper (envOfC qual (defScope st) s.heap.objs.size f cdv)) → sp s.heap.objs.size vs H Q E →
      ∃ t, PSs (cxOf CX0 P w K mg base N qual (defScope st) f cdv A outer s H E).nox (defBody st) t ∧ t { nx := fun _ H' => Q .non H', rt := Q } (L2.start N vs) H) : FnY P w K mg base CX0 (k + 1) f fd ps sp :=
  fnY_of F S len fun cdv A outer s H vs Q E hr hsp => let ⟨t, h, q⟩ := hbody cdv A outer s H vs Q E hr hsp; ⟨t, h.nox, q⟩
end
/-! ### for x in o, o an object whose own __iter__ hands on iter(l) -/
theorem dropH_upd {H : Hp} {a : Addr} {o : HO} (h : H a = none) : ItX.dropH (upd H a o) a = H := by
  funext b
  by_cases e : b = a
  · rw [e, ItX.dropH_same, h]
  · rw [ItX.dropH_ne e, upd_ne e]
def iOwnL (K : PySem.W.Frag) (C : Addr) (sp : Nat → Sp) (E : XK) (te : TE) : TI := fun σ H R => te σ H fun x H1 => ∃ a dx fs, x = .ref a ∧ H1 a = some (.ins C dx fs) ∧
  ∀ n, sp n [.ref a] H1 (fun v H2 => ∃ (it l : Addr), v = .ref it ∧ n ≤ it ∧ H2 it = some (ItO l it 0) ∧ R (Itl K l) (ItX.dropH H2 it)) E
theorem pi_ownL {X : Cx} {CX : CXT} {C f : Addr} {fd : FuncData} {ps : List Str} {sp : Nat → Sp} {E : XK} {n : Nat} {tg e : Expr} {te : TE} (he : PE X e te) (F : FnY X.prog X.w X.K X.mg X.base CX n f fd ps sp)
    (hs : PySem.W.findIn X.K (.ref C) "__iter__" = some (some (.ref f))) (hfn : PySem.W.isFn X.K (.ref f) = true) (hb : Binds X.K fd ps []) (hx : Passes CX X E) (hr : Room n X.A) : PI X tg e (iOwnL X.K C sp E te) := by
  refine ⟨fun pins s σ H R I h => ?_⟩
  refine thn (he.run pins s σ H _ I h) fun u s1 ⟨x, H1, I1, r1, a, dx, fs, ex, ha, hsp0⟩ => ?_
  subst ex
  cases r1
  have hsp := hsp0 s1.heap.objs.size
  obtain ⟨mA, J, _⟩ := ins_get I1.hok ha
  obtain ⟨od, J, _⟩ := J.look
  obtain ⟨m0, hF⟩ := I1.fr
  refine PySem.W.owit_iter hF I1.ok.mod.kin J hs hfn ?_
  have hl := F.len _ _ _ _ _ hsp
  refine wpAny_call (codeAny_mono (F.run X.A X.stack s1 H1 ⟨[.ref a], []⟩ [.ref a] [.ref a] _ E hr I1.env0 (by
    have := hb s1 [.ref a] I1.kIn (by simpa using hl)
    simpa using this) (.cons rfl .nil) hsp) fun r s' hq => ?_)
  cases r with
  | error e => exact hx pins σ _ _ e s' I1 hq
  | ok fl =>
    cases fl with
    | next => exact False.elim hq
    | brk => exact False.elim hq
    | cont => exact False.elim hq
    | ret u =>
      obtain ⟨v, H', I', rv, it, l, ev, young, hit, hR⟩ := I1.after hq
      subst ev
      cases rv
      have eo := itO_get I' hit
      have st : s'.heap.IsListIter it l 0 := ⟨_, eo, rfl, rfl⟩
      show wpAny _ _ (specialOf (.ref it) "__next__") _ _ _
      refine wpAny_specialOf st.typeIs slot_listiter_next.lookup ?_
      have hi' := hit
      unfold ItO at hi'
      refine ⟨it, [it], _, _, ItX.dropH H' it, rfl, ItX.inv_drop I' hi', turn_list l it, st, fun b hb => ?_, hR⟩
      have e : b = it := by simpa using hb
      rw [e]
      exact ItX.inv_fp I' hit (Nat.le_trans I1.sz young)
theorem pi_ownLK {X : Cx} {CX : CXT} {C f : Addr} {fd : FuncData} {ps : List Str} {sp : Nat → Sp} {E : XK} {n : Nat} {tg e : Expr} {te : TE} (K : PySem.W.Frag) (he : PE X e te) (F : FnY X.prog X.w X.K X.mg X.base CX n f fd ps sp)
    (hs : PySem.W.findIn X.K (.ref C) "__iter__" = some (some (.ref f))) (hfn : PySem.W.isFn X.K (.ref f) = true) (hb : Binds X.K fd ps []) (hx : Passes CX X E) (hr : Room n X.A) (h : X.K = K := by rfl) : PI X tg e (iOwnL K C sp E te) := h ▸ pi_ownL he F hs hfn hb hx hr
/-! ### list(o) -/
theorem next_lst_end {P : Program} {w : World} {A : Around} {E : Value → Shared → Prop} {s : Shared} {it t : Addr} {i : Nat} {items : Array Value} {Q : Option Value → Shared → Prop} (hh : A.handled = none)
    (hit : s.heap.IsListIter it t i) (ht : s.heap.IsList t items) (hx : items[i]? = none)
    (hQ : ∀ h', Heap.ExtBut it s.heap h' → (∃ o, h'.get? it = some o) → Q none { s with heap := h' }) : wpAny (model P w) A (pyNext (.ref it)) Q E s := by
  obtain ⟨o, ho, hc, hd⟩ := id hit
  obtain ⟨ol, hol, _, nl, hdl⟩ := ht
  unfold pyNext
  refine wpAny_bind (wpAny_attempt (wpAny_callSpecial?_slot (name := Str.ofString "__next__") hit.typeIs slot_listiter_next (wpAny_call_entry slot_listiter_next hit.typeIs entry_listiter_next ?_ (args_listiter_next _))))
  show wpAny _ _ (field (.ref it) 0 >>= _) _ _ s
  refine wpAny_bind (wpAny_field ho hd (x := .ref t) rfl (PySem.W.KFB.if_not rfl ?_))
  show wpAny _ _ (field (.ref it) 1 >>= _) _ _ s
  refine wpAny_bind (wpAny_field ho hd (x := .int i 0) rfl ?_)
  show wpAny _ _ (seqItems? (.ref t) >>= _) _ _ s
  refine wpAny_bind (wpAny_seqItems hol hdl ?_)
  simp only [Int.toNat_natCast, hx]
  refine wpAny_bind (wpAny_rule (wpAny_bind (wpAny_setField ho hd (by simp) ?_)))
  show wpAny _ _ (newExc (.type "StopIteration") [] >>= _) _ _ _
  refine wpAny_bind ?_
  simp only [newExc, newTuple]
  refine wpAny_bind (wpAny_newObj_type ?_ (by size_fits))
  refine wpAny_bind (m := firstArgMember _ _) (wpAny_of_eq (a := Value.none) (by first | rfl | (simp only [firstArgMember]; rfl)) ?_)
  refine wpAny_newObj_type ?_ (by size_fits)
  simp only [raiseNew]
  refine wpAny_bind (wpAny_handled ?_)
  first | rw [show A.in1.handled = none from hh] | rw [hh]
  refine wpAny_bind (wpAny_pure (wpAny_throw ?_))
  refine wpAny_bind (wpAny_isInstance (T := "StopIteration") (b := true) ⟨_, Heap.get?_push_size _ rfl, rfl⟩ isSubtype_stop ?_)
  exact wpAny_pure (hQ _ (((Heap.SameBut.update ..).extBut.push _).push _) ⟨_, Heap.get?_push_of_some _ (Heap.get?_push_of_some _ (Heap.get?_update_self _ ho (Obj.isFreed_of_fields (Obj.data_mapFields hd _))))⟩)
def ItL (l it : Addr) (i : Nat) : HO := .ext fun h => h.IsListIter it l i
theorem itL_ok {P : Program} {w : World} {H : Hp} {h : Heap} {t it : Addr} {i : Nat} (e : h.IsListIter it t i) : ObjOk P w H h it (ItL t it i) := by
  obtain ⟨o, ho, r⟩ := id e
  exact ⟨e, ⟨_, ho⟩, fun g1 g2 q k => q.at fun o e => k o e⟩
section
variable {X : Cx} {pins : List (Addr × Obj)} {σ : L2.St} {H : Hp} {s : Shared}
theorem itL_get {t it : Addr} {i : Nat} (I : Inv X pins σ H s) (e : H it = some (ItL t it i)) : s.heap.IsListIter it t i := (I.hok it _ e).1
/-- the loop that fills the list at q -/
theorem loop_lst {A1 : Around} {Rs : Result → Shared → Prop} {q it t : Addr} {zs : List V} (hd : A1.in1.handled = none) (hne : q ≠ it) :
    ∀ (k i : Nat) (H : Hp) (s : Shared), zs.length - i = k → i ≤ zs.length → Inv X pins σ H s → H it = some (ItL t it i) → it ≠ t → q ≠ t → H t = some (.lst zs) → H q = some (.lst (zs.take i)) →
      (∀ s', Inv X pins σ (upd (upd H it (ItTE it)) q (.lst zs)) s' → Rs (.ok (.ret .none)) s') → codeAny (model X.prog X.w) A1 (.builtin "list.extend.loop" ⟨[.ref q, .ref it, .none], []⟩) Rs s := by
  intro k
  induction k with
  | zero =>
    intro i H s hk hi I hit nit nqt ht hq hR
    obtain ⟨its, rv, pl, hz⟩ := I.list (SqL.of ht)
    have hin : zs.length = its.length := rv.length
    have mu : Mut (H it) := by rw [hit]; exact True.intro
    refine codeAny_builtin PySem.F.entry_extend_loop ?_
    rw [Around.under_plainId PySem.F.plain_extend_loop _]
    show wpAny _ A1.in1 (pyNext (.ref it) >>= _) _ _ s
    have ei : i = zs.length := by omega
    refine wpAny_bind (next_lst_end hd (itL_get I hit) pl.isList (by rw [List.getElem?_toArray]; exact List.getElem?_eq_none (by omega)) fun h' eb ⟨o, ho⟩ => wpAny_pure ?_)
    have I2 : Inv X pins σ (upd H it (ItTE it)) { s with heap := h' } := I.write (x := it) (e := it) (t' := s.toks) mu (.inl rfl) (fun b o nb z => eb b o nb z) ⟨_, ho⟩ (itTE_ok ho)
    refine hR _ ?_
    have e : upd (upd H it (ItTE it)) q (.lst zs) = upd H it (ItTE it) := by
      funext b
      by_cases hb : b = q
      · rw [hb, upd_same, upd_ne hne, hq, ei, List.take_length]
      · rw [upd_ne hb]
    rw [e]
    exact I2
  | succ k ih =>
    intro i H s hk hi I hit nit nqt ht hq hR
    obtain ⟨its, rv, pl, hz⟩ := I.list (SqL.of ht)
    have hin : zs.length = its.length := rv.length
    have mu : Mut (H it) := by rw [hit]; exact True.intro
    have hlt : i < zs.length := by omega
    have hzi := List.getElem?_eq_getElem hlt
    obtain ⟨u, hu, ru⟩ := rv.get hzi
    refine codeAny_builtin PySem.F.entry_extend_loop ?_
    rw [Around.under_plainId PySem.F.plain_extend_loop _]
    show wpAny _ A1.in1 (pyNext (.ref it) >>= _) _ _ s
    refine wpAny_bind (wpAny_pyNext_list_item (itL_get I hit) pl.isList (by rw [List.getElem?_toArray]; exact hu) fun h' hit' sb => ?_)
    obtain ⟨o, ho, _⟩ := id hit'
    have I2 : Inv X pins σ (upd H it (ItL t it (i + 1))) { s with heap := h' } := I.write (x := it) (e := it) (t' := s.toks) mu (.inl rfl) (fun b o nb z => (sb.2 b nb).trans z) ⟨_, ho⟩ (itL_ok hit')
    have hq2 : upd H it (ItL t it (i + 1)) q = some (.lst (zs.take i)) := by rw [upd_ne hne]; exact hq
    show wpAny _ A1.in1 (updateSeq q (·.push u) >>= _) _ _ _
    obtain ⟨z, its2, c, r2, hl, e⟩ := I2.lstM hq2
    have l2 : its2.length ≤ 16777215 := by
      rw [← hl, List.length_take]
      have := hz
      rw [sizeLine_eq] at this
      omega
    refine wpAny_bind (wpAny_updateSeq e rfl (wpAny_pure ⟨plainId_quiet PySem.F.plain_extend_loop _, ?_⟩) (by rw [List.size_toArray, sizeLine_eq]; omega) (by show (its2.toArray.push u).size ≤ sizeLine + 1; rw [Array.size_push, List.size_toArray, sizeLine_eq]; omega))
    have I3 := I2.lset (f := (·.push u)) (its' := its2 ++ [u]) (ys := zs.take i ++ [zs[i]]) (t' := s.toks) hq2 e (by simp) (r2.append (.cons ru .nil)) (by rw [List.length_append, List.length_singleton, List.length_take, sizeLine_eq]; rw [sizeLine_eq] at hz; omega)
    refine ih (i + 1) _ _ (by omega) (by omega) I3 ?_ nit nqt ?_ ?_ fun s' I4 => hR s' ?_
    · rw [upd_ne (Ne.symm hne), upd_same]
    · rw [upd_ne (Ne.symm nqt), upd_ne (Ne.symm nit)]
      exact ht
    · rw [upd_same, take_snoc hzi]
    · have e4 : upd (upd (upd (upd H it (ItL t it (i + 1))) q (.lst (zs.take i ++ [zs[i]]))) it (ItTE it)) q (.lst zs) = upd (upd H it (ItTE it)) q (.lst zs) := by
        funext b
        by_cases hb : b = q
        · rw [hb, upd_same, upd_same]
        · rw [upd_ne hb, upd_ne hb]
          by_cases hb2 : b = it
          · rw [hb2, upd_same, upd_same]
          · rw [upd_ne hb2, upd_ne hb2, upd_ne hb, upd_ne hb2]
      rw [← e4]
      exact I4
def rListItL (C : Addr) (sp : Nat → Sp) (E : XK) : List V → Hp → VK → Prop := fun xs H Q => ∃ a dx fs, xs = [.ref a] ∧ H a = some (.ins C dx fs) ∧
  ∀ q n, H q = none → sp n [.ref a] (upd H q (.lst [])) (fun v H1 => ∃ (it t : Addr) (zs : List V), v = .ref it ∧ H1 it = some (ItO t it 0) ∧ it ≠ t ∧ q ≠ t ∧ H1 t = some (.lst zs) ∧ H1 q = some (.lst []) ∧ (∃ dx' fs', H1 a = some (.ins C dx' fs')) ∧ Q (.ref q) (upd (upd H1 it (ItTE it)) q (.lst zs))) E
theorem call_listItL {C f : Addr} {fd : FuncData} {ps : List Str} {sp : Nat → Sp} {E : XK} {n : Nat} {CX : CXT} (hs : PySem.W.findIn X.K (.ref C) "__iter__" = some (some (.ref f))) (hfn : PySem.W.isFn X.K (.ref f) = true) (n1 : PySem.W.findIn X.K (.ref C) "__len__" = some none) (n2 : PySem.W.findIn X.K (.ref C) "__length_hint__" = some none)
    (F : FnY X.prog X.w X.K X.mg X.base CX n f fd ps sp) (hb : Binds X.K fd ps []) (hx : Passes CX X E) (hr : Room (n + 2) X.A) : CallR X (.type "list") (rListItL C sp E) := by
  intro pins s σ H xs us Q I rv h
  obtain ⟨a, dx, fs, rfl, ha, hq⟩ := h
  obtain ⟨u, rfl, ru⟩ := rv.one
  cases ru
  have sb : Sub X n X.A.in1.in1 := (Sub.in1 (Sub.in1 (⟨hr, rfl⟩ : Sub X (n + 2) X.A)))
  refine callType_codes (Q₁ := fun obj s₁ => obj = .ref s.heap.objs.size ∧ s₁ = { s with heap := s.heap.push { cls := .type "list", data := .seq #[] } }) PySem.F.called_list (PySem.F.typeCall_list_1 _) PySem.F.entry_list_init
    (code_list_new _ ⟨rfl, rfl⟩) fun obj s₁ h₁ => ?_
  obtain ⟨rfl, rfl⟩ := h₁
  have hS : (s.heap.push { cls := .type "list", data := .seq #[] }).get? s.heap.objs.size = some { cls := .type "list", data := .seq #[] } := Heap.get?_push_size _ rfl
  refine ⟨⟨_, hS, rfl⟩, PySem.F.args_list_init_2 _ _, ?_⟩
  have fr : H s.heap.objs.size = none := I.hok.fresh (Nat.le_refl _)
  have hsp := fun n => hq _ n fr
  have I1 : Inv X pins σ (upd H s.heap.objs.size (.lst [])) { s with heap := s.heap.push { cls := .type "list", data := .seq #[] } } := I.lnew (its := []) (t' := s.toks) .nil (Nat.zero_le _)
  show wpAny _ _ (do let old ← Builtin.List.listItems (.ref s.heap.objs.size); Builtin.List.listUpdate (.ref s.heap.objs.size) (fun _ => #[]); letGo old.toList.reverse; Builtin.List.listExtendWith (.ref s.heap.objs.size) (.ref a) .none) _ _ _
  refine wpAny_bind ?_
  unfold Builtin.List.listItems
  refine wpAny_bind (wpAny_seqItems hS rfl (wpAny_pure ?_))
  show wpAny _ _ (updateSeq s.heap.objs.size (fun _ => #[]) >>= fun _ => letGo (#[] : Array Value).toList.reverse >>= fun _ => Builtin.List.listExtendWith (.ref s.heap.objs.size) (.ref a) .none) _ _ _
  refine wpAny_bind (wpAny_updateSeq hS rfl ?_)
  have I2 := I1.lset (f := fun _ => #[]) (its := []) (its' := []) (ys := []) (t' := s.toks) upd_same hS rfl .nil (Nat.zero_le _)
  rw [upd_upd] at I2
  refine wpAny_bind (wpAny_letGo ?_)
  have ha2 : upd H s.heap.objs.size (.lst []) a = some (.ins C dx fs) := by rw [upd_ne (ne_of_none ha fr)]; exact ha
  have hne : s.heap.objs.size ≠ a := Ne.symm (ne_of_none ha fr)
  generalize hH2 : upd H s.heap.objs.size (.lst []) = H2 at *
  generalize s.heap.objs.size = q at *
  obtain ⟨mA, J, _⟩ := ins_get I2.hok ha2
  obtain ⟨od, J, _⟩ := J.look
  obtain ⟨m0, hF⟩ := I2.fr
  unfold Builtin.List.listExtendWith
  refine wpAny_bind (J.type.here ?_)
  have h1 : Builtin.List.listSameRef (.ref q) (.ref a) = false := by simp [Builtin.List.listSameRef, hne]
  have h2 : (Value.ref C == Value.type "list") = false := rfl
  have h3 : (Value.ref C == Value.type "tuple") = false := rfl
  simp only [h1, h2, h3, Bool.or_false, Bool.false_eq_true, if_false]
  refine wpAny_bind (PySem.W.owit_iter hF I2.ok.mod.kin J hs hfn ?_)
  have e0 : ∀ {s : Shared} {H : Hp}, Inv X pins σ H s → Env0 X.prog X.w X.K X.mg X.base X.A.in1.in1 X.stack s H := fun {s H} I => by
    have e := I.env0
    exact ⟨by rw [sb.fr]; exact e.frames, e.mod, e.bs, e.bsz, e.funs, e.frf, e.hok, e.bare⟩
  have hl := F.len _ _ _ _ _ (hsp 0)
  have r2 : Vals [V.ref a] [Value.ref a] := .cons rfl .nil
  refine wpAny_call (codeAny_mono (F.run X.A.in1.in1 X.stack _ _ ⟨[.ref a], []⟩ [.ref a] [.ref a] _ E sb.room (e0 I2) (by
    have := hb _ [.ref a] I2.kIn (by simpa using hl)
    simpa using this) r2 (hsp _)) fun r s' hq' => ?_)
  cases r with
  | error e => exact hx pins σ _ _ e s' I2 hq'
  | ok fl =>
    cases fl with
    | next => exact False.elim hq'
    | brk => exact False.elim hq'
    | cont => exact False.elim hq'
    | ret u =>
      obtain ⟨v, H', I', rv, it, t, zs, ev, hit, nit, nqt, ht, hqq, ⟨dx', fs', ha'⟩, hQ⟩ := I2.after hq'
      subst ev
      cases rv
      have stt : ∀ s'', Inv X pins σ H' s'' → s''.heap.IsListIter it t 0 := fun s'' I'' => ⟨_, itO_get I'' hit, rfl, rfl⟩
      have hT : s'.TypeIs (.ref it) "list_iterator" := (stt s' I').typeIs
      have hqi : q ≠ it := fun z => by
        rw [z, hit] at hqq
        exact (nomatch hqq)
      show wpAny _ _ (specialOf (.ref it) "__next__") _ _ _
      refine wpAny_specialOf hT slot_listiter_next.lookup ?_
      obtain ⟨mA', J', _⟩ := ins_get I'.hok ha'
      obtain ⟨od', J', _⟩ := J'.look
      refine wpAny_bind (wpAny_holding (hint_own n1 n2 I'.kIn J' ?_))
      have go : ∀ s'', Inv X pins σ H' s'' → codeAny (model X.prog X.w) X.A.in1 (.builtin "list.extend.loop" ⟨[.ref q, .ref it, .none], []⟩) (wants (fun r s₂ => r = .none ∧ EP X pins σ Q (.ref q) s₂) X.xe) s'' := fun s'' I'' =>
by
        have mu : Mut (H' it) := by rw [hit]; exact True.intro
        obtain ⟨oi, ei, _⟩ := id (stt s'' I'')
        have I5 : Inv X pins σ (upd H' it (ItL t it 0)) s'' := I''.write (x := it) (e := it) (t' := s''.toks) mu (.inl rfl) (fun b o nb z => z) ⟨_, ei⟩ (itL_ok (stt s'' I''))
        refine loop_lst (t := t) (zs := zs) sb.room.hd hqi zs.length 0 _ s'' (by simp) (Nat.zero_le _) I5 upd_same nit nqt (by rw [upd_ne (Ne.symm nit)]; exact ht) (by rw [upd_ne hqi, hqq]; rfl) fun s3 I3 => ?_
        rw [upd_upd] at I3
        exact ⟨rfl, .ref q, _, I3, rfl, hQ⟩
      obtain ⟨z, its, k, r3, hl3, e3⟩ := I'.lstM hqq
      cases r3
      refine wpAny_ite_split (fun _ => ?_) (fun _ => wpAny_pure ⟨plainId_quiet PySem.F.plain_extend_loop _, go s' I'⟩)
      refine wpAny_bind (wpAny_rule ?_)
      refine wpAny_bind ?_
      show wpAny _ _ (updateSeq q (·.push .none) >>= fun _ => updateSeq q (·.pop)) _ _ _
      refine wpAny_bind (wpAny_updateSeq e3 rfl ?_)
      have I3 := I'.lset (f := (·.push Value.none)) (its' := [Value.none]) (ys := [.non]) (t' := s'.toks) hqq e3 (by simp) (.cons rfl .nil) (by rw [List.length_singleton, sizeLine_eq]; decide)
      obtain ⟨z4, its4, k4, r4, hl4, e4⟩ := I3.lstM upd_same
      obtain ⟨u4, rfl, ru4⟩ := r4.one
      refine wpAny_updateSeq e4 rfl ?_ (by show 1 ≤ sizeLine; rw [sizeLine_eq]; decide) (by show 0 ≤ sizeLine + 1; exact Nat.zero_le _)
      have I4 := I3.lset (f := (·.pop)) (its := [u4]) (its' := []) (ys := []) (t' := s'.toks) upd_same e4 (by rfl) .nil (Nat.zero_le _)
      rw [upd_upd] at I4
      have hH : upd H' q (.lst []) = H' := by
        funext b
        by_cases hb : b = q
        · rw [hb, upd_same, hqq]
        · rw [upd_ne hb]
      rw [hH] at I4
      exact wpAny_pure ⟨plainId_quiet PySem.F.plain_extend_loop _, go _ I4⟩
end
theorem u190 {k : Nat} {A : Around} (r : Room k A) : A.units + 190 < cLine := by have := r.un; omega
end XL
set_option Elab.async false
set_option linter.all false
set_option maxRecDepth 100000
set_option maxHeartbeats 4000000
/-! XFoc: o.f = v by an own property's setter; C(..) within a try; a call that raises within a def that lets it out; a written tuple. -/
namespace XL
open PySem PySem.Spec PyProof.Rows L2
structure PSet (K : PySem.W.Frag) (C : Addr) (f : Str) (p g : Addr) : Prop where
  tk : PySem.W.takerIn K C f = some (some (.ref p))
  ty : PySem.W.typeIn K (.ref p) = some (.type "property")
  rec_ : ∃ a rest, PySem.W.recIn K p "property" = some (a :: .ref g :: rest)
def sPSet (C : Addr) (sp : Sp) (E : XK) (ta tv : TE) : TS := fun D σ H => tv σ H fun y H1 => ta σ H1 fun x H2 => ∃ a dx fs, x = .ref a ∧ H2 a = some (.ins C dx fs) ∧ sp [.ref a, y] H2 (fun _ H3 => D.nx σ H3) E
section
variable {X : Cx} {CX : CXT} {k : Nat} {C p g : Addr} {f : Str} {fd : FuncData} {ps : List Str} {sp : Sp} {E : XK} {o value : Expr} {pos pos' : Pos} {ta tv : TE}
theorem Room.in2 {k : Nat} {A : Around} (r : Room (k + 2) A) : Room k A.in1.in1 := (Room.in1 (Room.in1 r))
/-- o.f = v, f a property with a setter -/
theorem ps_pset (ha : PE X o ta) (hv : PE X value tv) (c : Cls X.K C) (hp : PSet X.K C f p g) (F : FnOk X.prog X.w X.K X.mg X.base CX k g fd ps sp) (hr : Room (k + 2) X.A) (hb : Binds X.K fd ps []) (hx : Passes CX X E)
    (hs : swapsWith value (some (.Attribute o f pos')) pos.line X.env = pure false) : PS X (.Assign [.Attribute o f pos'] value pos) (sPSet C sp E ta tv) := by
  refine ⟨fun pins s σ H D I h => ?_⟩
  refine plainObj_wpAny_Assign_Attribute (thn (hv.run pins s σ H _ I h) fun u s1 ⟨y, H1, I1, ry, q⟩ => thn (ha.run pins s1 σ H1 _ I1 q) fun ov s2 ⟨x, H2, I2, rx, a, dx, fs, ex, ea, q2⟩ => ?_) hs
  subst ex
  obtain rfl : ov = Value.ref a := rx
  obtain ⟨mA, O, _, _, _, _⟩ := ins_get I2.hok ea
  obtain ⟨od, J, _⟩ := O.look
  obtain ⟨a0, rest, hrec⟩ := hp.rec_
  have I3 := I2.tok (s2.toks + 1)
  have hl : ([Value.ref a, u] : List Value).length = ps.length := by
    rw [← F.len _ _ _ _ q2]
    rfl
  refine PySem.W.set_plain I2.kIn J c.sa (PySem.W.osa_descr PySem.W.KF.slot_pset I3.kIn J c.po hp.tk hp.ty (PySem.W.prop_set I3.kIn hrec ?_))
  have b := hb { s2 with toks := s2.toks + 1 } [.ref a, u] I3.kIn (by rw [List.append_nil]; exact hl)
  rw [List.append_nil] at b
  refine codeAny_mono (F.run X.A.in1.in1 X.stack { s2 with toks := s2.toks + 1 } H2 ⟨[.ref a, u], []⟩ [.ref a, u] [.ref a, y] _ E (Room.in2 hr) I3.env0.in1.in1 b (.cons rfl (.cons ry .nil)) q2) fun r s' hq => ?_
  cases r with
  | error e => exact hx pins σ _ _ e s' I3 hq
  | ok fl =>
    cases fl with
    | ret u =>
      obtain ⟨v, H', I', rv, q3⟩ := I3.after hq
      exact ⟨σ, H', I', q3⟩
    | next => exact False.elim hq
    | brk => exact False.elim hq
    | cont => exact False.elim hq
end
/-- what leaves a def by its own promise -/
theorem passO {X : Cx} {E : XK} (tk : Takes X (fun cls d _ H => E cls d H)) : Passes (L2.CX X.prog X.w) X E := fun pins σ H s e s' I c => passes_call tk (fun _ _ _ _ h => h) pins σ H s e s' I c
section
variable {X : Cx} {CX : CXT} {k : Nat} {f C : Addr} {fd : FuncData} {ps : List Str} {ds : List Value} {dvs : List V} {sp : Sp} {E : L2.St → XK} {x : Str} {p pos : Pos} {e : Expr} {es : List Expr} {t : TA}
theorem run_makeT {pins : List (Addr × Obj)} {σ : L2.St} {H : Hp} {s : Shared} {Q : VK} {us : List Value} {vs : List V} (M : Mk X.K C f) (F : FnOk X.prog X.w X.K X.mg X.base CX k f fd ps sp) (hr : Room (k + 1) X.A) (hb : Binds X.K fd ps ds) (hd : Vals dvs ds)
    (hx : PassesAt CX X σ (E σ)) (I : Inv X pins σ H s) (r : Vals vs us)
    (h : ∀ x dx, H x = none → H dx = none → dx ≠ x → sp (.ref x :: (vs ++ dvs)) (upd (upd H dx (.own x)) x (.ins C dx [])) (fun v H2 => v = .non ∧ Q (.ref x) H2) (E σ)) :
    wpAny (model X.prog X.w) X.A (call (.ref C) us) (EP X pins σ Q) X.xe s := by
  have hq := h (s.heap.objs.size + 1) s.heap.objs.size (I.hok.fresh (Nat.le_succ _)) (I.hok.fresh (Nat.le_refl _)) (Nat.ne_of_lt (Nat.lt_succ_self _))
  have I2 := Inv.made (C := C) I
  have r2 : Vals (V.ref (s.heap.objs.size + 1) :: (vs ++ dvs)) (Value.ref (s.heap.objs.size + 1) :: (us ++ ds)) := .cons rfl (r.append hd)
  have hl : (Value.ref (s.heap.objs.size + 1) :: us ++ ds).length = ps.length := by
    have e := r2.length
    rw [F.len _ _ _ _ hq] at e
    exact e.symm
  refine wpAny_call (make_map (f := f) I.kIn M.makes M.init (beq_iff_eq.mp M.fn) (codeAny_mono (F.run _ X.stack _ _ ⟨Value.ref (s.heap.objs.size + 1) :: us, []⟩ (Value.ref (s.heap.objs.size + 1) :: (us ++ ds)) _ _ (E σ) (hr.make C us [])
    (I2.env0.make C us []) (hb _ (Value.ref (s.heap.objs.size + 1) :: us) I2.kIn hl) r2 hq) fun r s' hq' => ?_))
  cases r with
  | error e => exact hx pins _ _ e s' I2 hq'
  | ok fl =>
    cases fl with
    | ret u =>
      obtain ⟨v, H', I3, rv, ev, q3⟩ := I2.after hq'
      subst ev
      exact ⟨rv, ⟨V.ref (s.heap.objs.size + 1), H', I3, rfl, q3⟩⟩
    | next => exact False.elim hq'
    | brk => exact False.elim hq'
    | cont => exact False.elim hq'
def tMakeT (C : Addr) (sp : Sp) (dvs : List V) (E : L2.St → XK) (t : TA) : TE := fun σ H Q => t σ H fun vs H1 => ∀ x dx, H1 x = none → H1 dx = none → dx ≠ x → sp (.ref x :: (vs ++ dvs)) (upd (upd H1 dx (.own x)) x (.ins C dx [])) (fun v H2 => v = .non ∧ Q (.ref x) H2) (E σ)
/-- C(e, ..) within a try -/
theorem pe_makeT (M : Mk X.K C f) (F : FnOk X.prog X.w X.K X.mg X.base CX k f fd ps sp) (hr : Room (k + 1) X.A) (hg : Gl X x) (hm : X.mg x = some (.ref C)) (hb : Binds X.K fd ps ds) (hd : Vals dvs ds) (hx : ∀ σ, PassesAt CX X σ (E σ))
    (ha : PA X (e :: es) t) (hdb : (x == ("__debug__" : Str)) = false := by decide) (he : starEach (e :: es) X.env = (false, eval e X.env) :: starEach es X.env := by rfl) (hpl : (backTo pos (starEach es X.env)).any (·.1) = false := by rfl) :
    PE X (.Call (.Name x p) (e :: es) [] pos) (tMakeT C sp dvs E t) := by
  refine ⟨fun pins s σ H Q I h => ?_⟩
  refine wpAny_Call_Name_kw (ld_glob I hg hm ?_ hdb)
  refine PySem.W.callWith_K (h₀ := X.base) I.ok.mod.kin M.kp (thn (ha.run pos pins s σ H _ I h) fun us s1 ⟨vs, H1, I1, r, q⟩ => ⟨I1.kIn, ?_⟩) he hpl
  exact run_makeT M F hr hb hd (hx σ) I1 r q
end
/-- the calls of a def with one default: with and without it -/
structure Dfl1 (K : PySem.W.Frag) (fd : FuncData) (ps : List Str) (dv : V) : Prop where
  all : Binds K fd ps []
  one : ∃ ds, Vals [dv] ds ∧ Binds K fd ps ds
end XL
namespace XL
open PySem PySem.Spec PyProof.Rows L2
section
variable {X : Cx} {pos : Pos}
theorem pg_unlK (K : PySem.W.Frag) (n : Nat) {es : List Expr} {k : Nat} {t : TGs} (h : PGs X es t) (hc : X.calm = true := by rfl) (hK : X.K = K := by rfl)
    (hn : (assignEach es X.env).length = n := by rfl) (hst : (assignEach es X.env).findIdx? (·.1) = none := by rfl) : PG X (.Tuple es k pos) (gUnl K n t) := hK ▸ pg_unl hc h hn hst
theorem mt_indexK (K : PySem.W.Frag) (hK : X.K = K := by rfl) : MtR X "list.index" (rIndex K) := hK ▸ mt_index
end
end XL
set_option Elab.async false
set_option linter.all false
set_option maxRecDepth 100000
set_option maxHeartbeats 4000000
/-! XDel: del xs[a:]. -/
namespace XL
open PySem PySem.Spec PyProof.Rows L2
section
variable {prog : Program} {w : World} {A : Around} {E : Value → Shared → Prop} {s : Shared}
def selF (a n : Int) (i : Nat) : Bool := if (1 : Int) > 0 then a ≤ i && i < n && ((i : Int) - a) % 1 == 0 else n < i && i ≤ a && (a - i) % (-1) == 0
theorem selF_eq (a n i : Nat) : selF (a : Int) (n : Int) i = (decide (a ≤ i) && decide (i < n)) := by
  unfold selF
  rw [if_pos (by decide)]
  have h : (((i : Int) - (a : Int)) % 1 == 0) = true := by rw [Int.emod_one]; rfl
  rw [h, Bool.and_true]
  congr 1
  · exact decide_eq_decide.mpr Int.ofNat_le
  · exact decide_eq_decide.mpr Int.ofNat_lt
theorem zip_keep : ∀ (xs : List Value) (j a n : Nat), j + xs.length ≤ n → ((xs.zipIdx j).filterMap fun (p : Value × Nat) => if (selF (a : Int) (n : Int) p.2) = true then none else some p.1) = xs.take (a - j)
  | [], _, _, _, _ => by simp
  | x :: r, j, a, n, h => by
    rw [List.length_cons] at h
    rw [List.zipIdx_cons, List.filterMap_cons, selF_eq]
    have ih := zip_keep r (j + 1) a n (by omega)
    by_cases hj : a ≤ j
    · have e1 : (decide (a ≤ j) && decide (j < n)) = true := by rw [decide_eq_true hj, decide_eq_true (by omega)]; rfl
      have e0 : a - j = 0 := by omega
      have e2 : a - (j + 1) = 0 := by omega
      rw [e2, List.take_zero] at ih
      rw [e0, List.take_zero]
      simp only [e1, if_true]
      exact ih
    · have e1 : (decide (a ≤ j) && decide (j < n)) = false := by rw [decide_eq_false hj]; rfl
      have e0 : a - j = a - (j + 1) + 1 := by omega
      rw [e0, List.take_succ_cons, ← ih]
      simp only [e1, Bool.false_eq_true, if_false]
theorem bounds_from {a n : Nat} (h : a ≤ n) : sliceBounds (some (a : Int)) none none n = ((a : Int), (n : Int), 1) := by
  simp only [sliceBounds, Option.getD_none]
  have h1 : ¬ ((a : Int) < 0) := by omega
  simp only [h1, if_false, show (1 : Int) > 0 by decide, if_true]
  congr 1
  omega
/-- list.__delitem__ with a slice from a place on -/
theorem delItem_from {l sl : Addr} {items : Array Value} {n : Nat} {vl : Value} {a : Nat} {Q : Unit → Shared → Prop}
    (e : s.heap.get? l = some { cls := .type "list", data := .seq items n }) (hs : s.heap.IsSliceOf sl vl .none .none) (pl : IsPart vl (some (a : Int))) (hac : a ≤ items.size) (hsz : items.size ≤ sizeLine)
    (h : Q () { s with heap := s.heap.update l (Obj.mapSeq fun xs => (xs.toList.zipIdx.filterMap fun (p : Value × Nat) => if (selF (a : Int) (items.size : Int) p.2) = true then none else some p.1).toArray) }) :
    wpAny (model prog w) A (delItem (.ref l) (.ref sl)) Q E s := by
  have hl : s.heap.IsList l items := PySem.IsL.isList e
  obtain ⟨os, hos, hcs, hds⟩ := id hs
  have hTs : s.TypeIs (.ref sl) "slice" := ⟨os, hos, hcs⟩
  have hstep : ¬ ((rawPart none == rawInt 0) = true) := Bool.false_ne_true
  have hz' : ((fun xs : Array Value => (xs.toList.zipIdx.filterMap fun (p : Value × Nat) => if (selF (a : Int) (items.size : Int) p.2) = true then none else some p.1).toArray) items).size ≤ sizeLine + 1 := by
    show (_ : List Value).toArray.size ≤ _
    rw [List.size_toArray, zip_keep items.toList 0 a items.size (by rw [Array.length_toList]; omega), List.length_take, Array.length_toList]
    omega
  unfold delItem
  try with_reducible refine wpAny_holding ?_
  first | refine wpAny_bind (wpAny_pure ?_) | skip
  refine wpAny_bind (wpAny_sequenceKey hl.typeIs (by decide) ?_)
  refine wpAny_bind (wpAny_callSpecial?_slot (name := Str.ofString "__delitem__") hl.typeIs PySem.F.slot_list_delitem
    (wpAny_call_entry PySem.F.slot_list_delitem hl.typeIs PySem.F.entry_list_delitem ?_ (PySem.F.args_list_delitem_2 _ _)))
  show wpAny _ _ (Builtin.List.listSubscript? (.ref sl) >>= _) _ _ s
  refine wpAny_bind ?_
  unfold Builtin.List.listSubscript?
  refine wpAny_bind (wpAny_specialOf hTs slice_no_index ?_)
  simp only [Option.isNone_none, if_true]
  refine wpAny_pure ?_
  show wpAny _ _ (typeOf (.ref sl) >>= _) _ _ s
  refine wpAny_bind (wpAny_typeOf hTs ?_)
  first
    | rw [if_neg (by decide)]
    | refine PySem.W.KFB.if_not (by decide) ?_
  rw [listSliceParts_eq]
  refine wpAny_bind (wpAny_bind (wpAny_field hos hds (x := .none) rfl (wpAny_bind (wpAny_listPart .none ?_))))
  rw [if_neg hstep]
  refine wpAny_bind (wpAny_field hos hds (x := vl) rfl (wpAny_bind (wpAny_listPart pl ?_)))
  refine wpAny_bind (wpAny_field hos hds (x := .none) rfl (wpAny_bind (wpAny_listPart .none (wpAny_pure ?_))))
  unfold Builtin.List.listItems
  refine wpAny_bind (wpAny_bind (wpAny_seqItems e rfl (wpAny_pure ?_)))
  refine wpAny_bind (wpAny_of_eq ((sliceIndices_raw (some (a : Int)) none none items.size (by simp)).trans (congrArg (pure : Int × Int × Int → Sem (Int × Int × Int)) (bounds_from hac))) ?_)
  refine wpAny_bind (wpAny_rule ?_)
  show wpAny _ _ (updateSeq l (fun xs => (xs.toList.zipIdx.filterMap fun (p : Value × Nat) => if (selF (a : Int) (items.size : Int) p.2) = true then none else some p.1).toArray) >>= _) _ _ s
  refine wpAny_bind (wpAny_updateSeq (hz := hsz) (_hz' := hz') e rfl ?_)
  refine wpAny_bind (wpAny_letGo ?_)
  first
    | exact wpAny_bind (wpAny_pure (wpAny_pure ⟨.none, rfl, wpAny_pure h⟩))
    | exact wpAny_pure ⟨.none, rfl, wpAny_pure h⟩
end
section
variable {X : Cx} {pos : Pos}
def tDelF (to ti : TE) : TS := fun D σ H => to σ H fun x H1 => ti σ H1 fun y H2 => ∃ (l : Addr) (xs : List V) (k : Nat), x = .ref l ∧ y = .int (k : Nat) ∧ H2 l = some (.lst xs) ∧ k ≤ xs.length ∧ D.nx σ (upd H2 l (.lst (xs.take k)))
theorem ps_delFrom {o lo : Expr} {to ti : TE} {p2 tpos : Pos} (ho : PE X o to) (hi : PE X lo ti) : PS X (.Delete [.Subscript o (.Slice (some lo) none none p2) tpos] pos) (tDelF to ti) := by
  refine ⟨fun pins s σ H D I h => ?_⟩
  refine wpAny_Delete (wpAny_deleteEach_cons (wpAny_delete_Subscript (thn (ho.run pins s σ H _ I h) fun u s1 ⟨x, H1, I1, rx, q1⟩ => ?_)))
  refine wpAny_Slice (wpAny_evalPart_some (thn (hi.run pins s1 σ H1 _ I1 q1) fun iv s2 ⟨y, H2, I2, ry, q2⟩ => wpAny_evalPart_none (wpAny_evalPart_none ?_)))
  obtain ⟨l, xs, k, rfl, rfl, hH, hk, q2⟩ := q2
  cases (show u = Value.ref l from rx)
  obtain ⟨t, rfl⟩ := (show ∃ t, iv = Value.int (k : Nat) t from ry)
  have I4 : L2.Inv X pins σ H2 { s2 with heap := s2.heap.push { cls := .type "slice", data := .fields #[.int (k : Nat) t, .none, .none] } } := I2.kept (t' := s2.toks) fun b ob q => Heap.get?_push_of_some _ q
  obtain ⟨z, its, n, r, hl, e⟩ := I4.lstM hH
  refine delItem_from (a := k) e (Heap.IsSliceOf.new ..) (.int _ _) (by rw [List.size_toArray, ← hl]; exact hk) (by rw [List.size_toArray]; omega) ?_
  refine wpAny_deleteEach_nil ⟨σ, _, I4.lset (its' := its.take k) (t' := s2.toks) hH e ?_ (r.take k) ?_, q2⟩
  · show (_ : List Value).toArray = _
    rw [zip_keep its 0 k _ (by rw [List.size_toArray]; omega)]
    rfl
  · rw [List.length_take]
    omega
end
theorem Sep.setAt {G H : Hp} {M : List (Addr × HO)} {i : Nat} {a : Addr} {o o' : HO} (S : Sep G M H) (h : M[i]? = some (a, o)) : Sep G (M.set i (a, o')) (upd H a o') := by
  have hi := (List.getElem?_eq_some_iff.mp h).1
  have S1 := S.perm (perm_erase h).symm
  have S2 := S1.set (o' := o')
  have e : (M.set i (a, o'))[i]? = some (a, o') := List.getElem?_set_self hi
  have p := perm_erase e
  rw [List.eraseIdx_set_eq] at p
  exact S2.perm p
end XL
namespace XL
open PySem PySem.Spec PyProof.Rows L2
/-! ### a text, several times -/
def repS (x : Str) (k : Nat) : Str := ⟨(List.replicate k x.cps).foldl (· ++ ·) #[]⟩
theorem foldl_cps : ∀ (k : Nat) (a : Array Nat) (x : Array Nat), ((List.replicate k x).foldl (· ++ ·) a).toList = a.toList ++ (List.replicate k x.toList).flatten
  | 0, a, x => by simp
  | k + 1, a, x => by
    rw [List.replicate_succ, List.foldl_cons, foldl_cps k, List.replicate_succ, List.flatten_cons]
    simp
theorem repS_tl (x : Str) (k : Nat) : (repS x k).cps.toList = (List.replicate k x.cps.toList).flatten := by
  have := foldl_cps k #[] x.cps
  simpa [repS] using this
theorem repS_len (x : Str) : ∀ k : Nat, (repS x k).length = k * x.length := by
  intro k
  rw [len_tl, repS_tl]
  induction k with
  | zero => simp
  | succ k ih =>
    rw [List.replicate_succ, List.flatten_cons, List.length_append, ih, ← len_tl, Nat.succ_mul]
    omega
theorem repS_mem {x : Str} {k c : Nat} (h : c ∈ (repS x k).cps.toList) : c ∈ x.cps.toList := by
  rw [repS_tl] at h
  obtain ⟨l, hl, hc⟩ := List.mem_flatten.mp h
  rw [(List.mem_replicate.mp hl).2] at hc
  exact hc
def yMulS : R2 := fun x y H Q => match x, y with
  | .str z, .int k => 2 ≤ k ∧ k ≤ 1000 ∧ 1 ≤ z.length ∧ z.length ≤ 1000 ∧ Q (.str (repS z k.toNat)) H
  | _, _ => False
theorem op_mulS {X : Cx} : OpR X (binaryOp .Mult) yMulS := by
  intro pins s σ H x y v u Q I rx ry h
  unfold yMulS at h
  split at h
  · rename_i z k
    obtain ⟨h1, h2, h3, h4, q⟩ := h
    obtain ⟨t, rfl⟩ := rx
    obtain ⟨t', rfl⟩ := ry
    have hk : ¬ k < 1 := by omega
    have hc : (k == 1 || z.length == 0) = false := by
      rw [Bool.or_eq_false_iff]
      exact ⟨beq_eq_false_iff_ne.mpr (by omega), beq_eq_false_iff_ne.mpr (by omega)⟩
    have hl : z.length * k.toNat ≤ 1000 * 1000 := Nat.mul_le_mul h4 (by omega)
    refine P.mul_str (by rw [decide_eq_false (by omega), decide_eq_false (by omega)]; rfl) (fun _ _ h => ?_) (fun _ _ => ?_) ?_
    · have : (z.length : Int) ≤ (2 ^ 63 - 1) / k := by
        rw [Int.le_ediv_iff_mul_le (by omega)]
        have e : (z.length : Int) * k = ((z.length * k.toNat : Nat) : Int) := by rw [Int.natCast_mul, Int.toNat_of_nonneg (by omega)]
        rw [e]
        omega
      omega
    · unfold Builtin.Str.tooLong
      exact decide_eq_false (by rw [sizeLine_eq]; omega)
    · rw [if_neg hk, if_neg (by rw [hc]; decide)]
      refine ⟨?_, .str (repS z k.toNat), H, I.tok _, ⟨_, rfl⟩, q⟩
      show (repS z k.toNat).length ≤ sizeLine
      rw [repS_len, sizeLine_eq, Nat.mul_comm]
      omega
  · exact h.elim
end XL
set_option Elab.async false
set_option linter.all false
set_option maxRecDepth 100000
set_option maxHeartbeats 4000000
/-! XPage: x in o by an own __contains__. -/
namespace XL
open PySem PySem.Spec PyProof.Rows L2
section
variable {X : Cx} {CX : CXT} {C f : Addr} {fd : FuncData} {ps : List Str} {sp : Sp} {E : XK} {n : Nat}
def yInO (C : Addr) (sp : Sp) (E : XK) (ng : Bool) : R2 := fun x y H Q => ∃ a dx fs, y = .ref a ∧ H a = some (.ins C dx fs) ∧ sp [.ref a, x] H (fun v H' => match v with
  | .bl b => Q (.bl (if ng = true then !b else b)) H'
  | _ => False) E
theorem op_inO (F : FnOk X.prog X.w X.K X.mg X.base CX n f fd ps sp) (hs : PySem.W.findIn X.K (.ref C) "__contains__" = some (some (.ref f))) (hf : PySem.W.isFn X.K (.ref f) = true) (hb : Binds X.K fd ps []) (hx : Passes CX X E) (hr : Room n X.A) : OpR X (compareOp .In) (yInO C sp E false) := by
  intro pins s σ H x y u v Q I rx ry h
  obtain ⟨a, dx, fs, rfl, ha, hsp⟩ := h
  cases ry
  obtain ⟨mA, J1, _⟩ := ins_get I.hok ha
  obtain ⟨od, J1, _⟩ := J1.look
  obtain ⟨m, hF⟩ := I.fr
  refine PySem.W.in_K hF I.ok.mod.kin J1 hs hf (wpAny_mono (run_fn (us := [.ref a, u]) (vs := [.ref a, x]) (dvs := []) F hr hb .nil hx I (.cons rfl (.cons rx .nil)) hsp) (fun r s' q => ?_) fun _ _ e => e)
  obtain ⟨z, H', I', rz, q⟩ := q
  cases z with
  | bl b =>
    cases rz
    exact wpAny_truthy_bool ⟨.bl b, H', I', rfl, q⟩
  | _ => exact q.elim
theorem op_ninO (F : FnOk X.prog X.w X.K X.mg X.base CX n f fd ps sp) (hs : PySem.W.findIn X.K (.ref C) "__contains__" = some (some (.ref f))) (hf : PySem.W.isFn X.K (.ref f) = true) (hb : Binds X.K fd ps []) (hx : Passes CX X E) (hr : Room n X.A) : OpR X (compareOp .NotIn) (yInO C sp E true) := by
  intro pins s σ H x y u v Q I rx ry h
  obtain ⟨a, dx, fs, rfl, ha, hsp⟩ := h
  cases ry
  obtain ⟨mA, J1, _⟩ := ins_get I.hok ha
  obtain ⟨od, J1, _⟩ := J1.look
  obtain ⟨m, hF⟩ := I.fr
  refine PySem.W.notIn_K hF I.ok.mod.kin J1 hs hf (wpAny_mono (run_fn (us := [.ref a, u]) (vs := [.ref a, x]) (dvs := []) F hr hb .nil hx I (.cons rfl (.cons rx .nil)) hsp) (fun r s' q => ?_) fun _ _ e => e)
  obtain ⟨z, H', I', rz, q⟩ := q
  cases z with
  | bl b =>
    cases rz
    exact wpAny_truthy_bool ⟨.bl (!b), H', I', rfl, q⟩
  | _ => exact q.elim
end
theorem _root_.L2.Room.u190 {k : Nat} {A : Around} (r : L2.Room k A) : A.units + 190 < cLine := by have := r.un; omega
/-! ### == and != of data of up to 190 levels, and of plain values -/
def rNeL (K : PySem.W.Frag) : R2 := fun x y H Q => ∃ d e, Dp K H x d ∧ Dp K H y e ∧ d.canLay0 = true ∧ e.canLay0 = true ∧ d.depth ≤ 190 ∧ Q (.bl (!PyData.eqv d e)) H
theorem op_neL {X : Cx} (K : PySem.W.Frag) (hu : X.A.units + 190 < cLine) (hK : X.K = K := by rfl) : OpR X (compareOp .NotEq) (rNeL K) := by
  subst hK
  intro pins s σ H x y v u Q I rx ry h
  obtain ⟨d, e, hd, he, sd, se, dp, q⟩ := h
  obtain ⟨as, r1⟩ := Dp.reads I d x v hd rx
  obtain ⟨bs, r2⟩ := Dp.reads I e y u he ry
  exact SeqAt.compareNe_reads r1 r2 sd se (by have := Nat.min_le_left d.depth e.depth; omega) ⟨.bl _, H, I, rfl, q⟩
def yEqL (K : PySem.W.Frag) : R2 := fun x y H Q => match x, y with
  | .int i, .int j => Q (.bl (decide (i = j))) H
  | .str i, .str j => Q (.bl (decide (i = j))) H
  | .bl i, .bl j => Q (.bl (decide (i = j))) H
  | .ref a, .ref b => rEqL K (.ref a) (.ref b) H Q
  | x, y => scal x y = true ∧ Q (.bl (decide (x = y))) H
def yNeL (K : PySem.W.Frag) : R2 := fun x y H Q => match x, y with
  | .int i, .int j => Q (.bl (!decide (i = j))) H
  | .str i, .str j => Q (.bl (!decide (i = j))) H
  | .bl i, .bl j => Q (.bl (!decide (i = j))) H
  | .ref a, .ref b => rNeL K (.ref a) (.ref b) H Q
  | x, y => scal x y = true ∧ Q (.bl (!decide (x = y))) H
theorem op_eqLK {X : Cx} (K : PySem.W.Frag) (hu : X.A.units + 190 < cLine) (hK : X.K = K := by rfl) : OpR X (compareOp .Eq) (yEqL K) := by
  refine or_str (OpR.or (op_eq (X := X)) (op_eqL K hu hK)) fun x y H Q h => ?_
  unfold yEqL at h
  split at h
  · exact .inl ⟨rfl, by rw [deci]; exact h⟩
  · exact .inl ⟨rfl, by rw [decs]; exact h⟩
  · exact .inl ⟨rfl, by rw [decb]; exact h⟩
  · exact .inr h
  · exact .inl h
theorem op_neLK {X : Cx} (K : PySem.W.Frag) (hu : X.A.units + 190 < cLine) (hK : X.K = K := by rfl) : OpR X (compareOp .NotEq) (yNeL K) := by
  refine or_str (OpR.or (op_ne (X := X)) (op_neL K hu hK)) fun x y H Q h => ?_
  unfold yNeL at h
  split at h
  · exact .inl ⟨rfl, by rw [deci]; exact h⟩
  · exact .inl ⟨rfl, by rw [decs]; exact h⟩
  · exact .inl ⟨rfl, by rw [decb]; exact h⟩
  · exact .inr h
  · exact .inl h
end XL
set_option Elab.async false
set_option linter.all false
set_option maxRecDepth 100000
set_option maxHeartbeats 4000000
/-! XCnt: xs.count(x) of data. -/
namespace XL
open PySem PySem.Spec PyProof.Rows L2
theorem _root_.L2.Room.u65 {k : Nat} {A : Around} (r : L2.Room k A) : A.units + 65 < cLine := by have := r.un; omega
def rCntD (K : PySem.W.Frag) : V → List V → Hp → VK → Prop := fun x xs H Q => ∃ (a : Addr) (y : V) (ys : List V) (d : PyData) (ds : List PyData), x = V.ref a ∧ xs = [y] ∧ SqL K H a ys ∧ DpAll K H ys ds ∧ Dp K H y d ∧
  PyData.canLayAll0 ds = true ∧ SeqAt.shaped d = true ∧ Q (.int ((ds.countP fun z => PyData.eqv z d : Nat) : Int)) H
theorem mt_countD {X : Cx} (K : PySem.W.Frag) (hu : X.A.units + 65 < cLine) (h : X.K = K := by rfl) : MtR X "list.count" (rCntD K) := by
  subst h
  intro pins s σ H x xs v us Q I rx rxs h
  obtain ⟨a, y, ys, d, ds, rfl, rfl, hs, ha, hy, hxs, sd, q⟩ := h
  cases rx
  cases rxs with
  | cons ry rt =>
    rename_i uy ut
    cases rt
    obtain ⟨bs, r1⟩ := Dp.reads I d y uy hy ry
    have hroom : X.A.units + 1 + min (PyData.depthAll ds) d.depth < cLine := room_in_shaped sd hu
    obtain ⟨its, rv, ⟨⟨cls, dd, data, sl⟩, n, ho, hc, hdn, hd⟩, hlen⟩ := I.list hs
    simp only at hc hd
    subst hc hd
    obtain ⟨as, h4⟩ := Dp.readsAll I ds _ its ha rv
    have hmap : its.map (SeqAt.readOf s.heap) = ds := SeqAt.readsAll_map ds its as hxs h4
    refine call_meets PySem.F.slot_list_count ⟨_, ho, rfl⟩ PySem.F.entry_list_count (PySem.F.args_list_count_2 _ _)
      (SeqAt.list_countAt a its.toArray n dd sl uy (fun u => PyData.eqv (SeqAt.readOf s.heap u) d)) ⟨ho, SeqAt.items_eqAt (vs := its.toArray) (show ReadsAll s.heap its.toArray.toList ds as from h4) r1 hxs (SeqAt.canLay_of_shaped sd) hroom, ?_⟩
    have ec : its.toArray.toList.countP (fun u => PyData.eqv (SeqAt.readOf s.heap u) d) = ds.countP fun z => PyData.eqv z d := by
      rw [← hmap, List.countP_map]
      rfl
    refine ⟨.int ((ds.countP fun z => PyData.eqv z d : Nat) : Int), H, I.tok _, ⟨s.toks, ?_⟩, q⟩
    show Value.int ((its.toArray.toList.countP (fun u => PyData.eqv (SeqAt.readOf s.heap u) d) : Nat) : Int) s.toks = Value.int ((ds.countP fun z => PyData.eqv z d : Nat) : Int) s.toks
    rw [ec]
end XL
set_option Elab.async false
set_option linter.all false
set_option maxRecDepth 100000
set_option maxHeartbeats 4000000
/-! XIn: x in l, l a list, items data of up to 185 levels. -/
namespace XL
open PySem PySem.Spec PyProof.Rows L2
def rInL (K : PySem.W.Frag) : R2 := fun x y H Q => ∃ d ds, Dp K H x d ∧ Dp K H y (.list ds) ∧ d.canLay0 = true ∧ d.depth ≤ 185 ∧ PyData.canLayAll0 ds = true ∧ Q (.bl (ds.any fun z => PyData.eqv z d)) H
theorem in_deepLK {X : Cx} (K : PySem.W.Frag) (hu : X.A.units + 190 < cLine) (h : X.K = K := by rfl) : OpR X (compareOp .In) (rInL K) := by
  subst h
  intro pins s σ H x y v u Q I rx ry h
  obtain ⟨d, ds, hd, he, sd, dp, se, q⟩ := h
  obtain ⟨as, r1⟩ := Dp.reads I d x v hd rx
  obtain ⟨bs, r2⟩ := Dp.reads I (.list ds) y u he ry
  exact SeqAt.in_list_reads r2 r1 se sd (by have := Nat.min_le_right (PyData.depthAll ds) d.depth; omega) ⟨.bl _, H, I, rfl, q⟩
end XL
set_option Elab.async false
set_option linter.all false
set_option maxRecDepth 100000
set_option maxHeartbeats 4000000
/-! XPat: tuples that are put together and cut. -/
namespace XL
open PySem PySem.Spec PyProof.Rows L2
section
variable {K : PySem.W.Frag} {G H : Hp} {M : List (Addr × HO)} {a b : Addr} {xs ys : List V} {Q : VK}
theorem op_catAK {X : Cx} (K : PySem.W.Frag) (h : X.K = K := by rfl) : OpR X (binaryOp .Add) (rCatA K) := h ▸ op_catA
theorem cat_ok (S : Sep G M H) (ha : SqT K G a xs) (hb : SqT K G b ys) (hl : xs.length + ys.length ≤ sizeLine) (q : ∀ c G' H', Same G G' → SqT K G' c (xs ++ ys) → Sep G' M H' → Q (.ref c) H') : rCatA K (.ref a) (.ref b) H Q := by
  refine ⟨a, b, xs, ys, rfl, rfl, S.t ha, S.t hb, hl, fun e => ?_, fun _ e => ?_, fun _ _ p np => ?_⟩
  · subst e
    exact q b G H (Same.refl G) hb S
  · subst e
    exact q a G H (Same.refl G) (by rw [List.append_nil]; exact ha) S
  · exact q p _ _ (S.grow np) (SqT.of upd_same) (S.newG np)
theorem cutA_ok {lo hi : Option Int} (S : Sep G M H) (ha : SqT K G a xs) (q : ∀ c G' H', Same G G' → SqT K G' c (cutV xs lo hi) → Sep G' M H' → Q (.ref c) H') : rSlA K (.ref a) lo hi H Q := by
  refine ⟨a, xs, rfl, S.t ha, fun e => ?_, fun _ p np => ?_⟩
  · refine q a G H (Same.refl G) ?_ S
    have : cutV xs lo hi = xs := by
      unfold cutV
      rw [e.1, e.2, Nat.sub_zero, List.drop_zero, List.take_length]
    rw [this]
    exact ha
  · exact q p _ _ (S.grow np) (SqT.of upd_same) (S.newG np)
end
theorem sqT_ty {K : PySem.W.Frag} {H : Hp} {a : Addr} {xs : List V} (h : SqT K H a xs) : TyX K H (.ref a) (.type "tuple") := by
  rcases h with (h | ⟨o, h⟩) | ⟨o, _, _, h, c, _⟩
  · exact .base (.tup h)
  · exact .fTuple h
  · exact .kTuple h c
end XL
set_option Elab.async false
set_option linter.all false
set_option maxRecDepth 100000
set_option maxHeartbeats 4000000
/-! XRepr: repr of tuples (and of lists of plain values) whatever other repr is under way: some text of a known length at most. -/
namespace PySem
open Sem
/-- a piece: whatever is under way, some text of at most B signs -/
def RX (prog : Program) (w : World) (h₀ : Heap) (d B : Nat) (x : Value) : Prop :=
  ∀ (base : Nat), base + B ≤ sizeLine → ∀ (A : Around) (g : List Code) (E : Value → Shared → Prop) (s : Shared) (Q : Str → Shared → Prop), A.guards = some g → A.units + d < cLine → (∀ b o, h₀.get? b = some o → s.heap.get? b = some o) →
    (∀ t h' tk, t.length ≤ B → (∀ b o, s.heap.get? b = some o → h'.get? b = some o) → Q t { s with heap := h', toks := tk }) → wpAny (model prog w) A (pyReprUnder base x) Q E s
inductive RXs (prog : Program) (w : World) (h₀ : Heap) (d : Nat) : List Value → Nat → Prop
  | nil : RXs prog w h₀ d [] 0
  | cons {x : Value} {B C : Nat} {l : List Value} : RX prog w h₀ d B x → RXs prog w h₀ d l C → RXs prog w h₀ d (x :: l) (B + 2 + C)
section
variable {prog : Program} {w : World} {h₀ : Heap} {d : Nat}
theorem RX.leaf {x : Value} {t : Str} {B : Nat} (h : ReprIs prog w x t) (hl : t.length ≤ B) : RX prog w h₀ d B x :=
  fun base hb A _ E s Q _ _ _ hQ => h base (by omega) A E s Q fun tk => hQ t s.heap tk hl fun _ _ e => e
theorem RX.level {x : Value} {B d' : Nat} (h : RX prog w h₀ d B x) (hd : d ≤ d') : RX prog w h₀ d' B x :=
  fun base hb A g E s Q hg hu hk hQ => h base hb A g E s Q hg (by omega) hk hQ
theorem RXs.level {l : List Value} {C d' : Nat} (h : RXs prog w h₀ d l C) (hd : d ≤ d') : RXs prog w h₀ d' l C := by
  induction h with
  | nil => exact .nil
  | cons h1 _ ih => exact .cons (h1.level hd) ih
theorem wpAny_tupFoldX {A : Around} {g : List Code} {E : Value → Shared → Prop} (hg : A.guards = some g) (hu : A.units + d < cLine) : ∀ (l : List Value) (C : Nat) (acc : Array Str) (n : Nat) (s : Shared) (Q : (Array Str × Nat) → Shared → Prop), RXs prog w h₀ d l C → n + C ≤ sizeLine →
    (∀ b o, h₀.get? b = some o → s.heap.get? b = some o) → (∀ ts h' tk, ts.length = l.length → piled ts ≤ C → (∀ b o, s.heap.get? b = some o → h'.get? b = some o) → Q ⟨acc ++ ts.toArray, n + piled ts⟩ { s with heap := h', toks := tk }) →
    wpAny (model prog w) A (forIn l (⟨acc, n⟩ : (Array Str × Nat)) tupBody) Q E s := by
  intro l
  induction l with
  | nil =>
    intro C acc n s Q hT _ _ h
    have h0 := h [] s.heap s.toks rfl (by simp [piled]) fun _ _ e => e
    simp only [List.forIn_nil]
    exact wpAny_pure (by simpa [piled] using h0)
  | cons x l ih =>
    intro C acc n s Q hT hn hk0 h
    cases hT with
    | @cons _ B C' _ hx hl =>
      rw [List.forIn_cons]
      refine wpAny_bind (wpAny_bind (hx (n + 1) (by omega) _ _ _ _ _ hg hu hk0 fun t h' tk ht hkp => wpAny_pure ?_))
      refine ih C' (acc.push t) (n + (t.length + 2)) _ Q hl (by omega) (fun b o e => hkp _ _ (hk0 _ _ e)) fun ts h'' tk' hts hp hk2 => ?_
      have h1 := h (t :: ts) h'' tk' (by simp [hts]) (by rw [piled_cons]; omega) fun b o e => hk2 _ _ (hkp _ _ e)
      have e : n + piled (t :: ts) = n + (t.length + 2) + piled ts := by rw [piled_cons]; omega
      rw [e] at h1
      simpa using h1
theorem tupleText_le (ts : List Str) : (tupleText ts).length ≤ piled ts + 3 := by
  unfold tupleText
  rw [strLen_append, strLen_append]
  have e1 : ((("(" : String) : Str)).length = 1 := rfl
  have e3 : (((if ts.length == 1 then ",)" else ")" : String) : Str)).length ≤ 2 := by split <;> decide
  rw [e1]
  by_cases h : ts = []
  · subst h
    have : (Str.join ", " ([] : List Str)).length = 0 := rfl
    omega
  · have := join_length_add ts h
    omega
theorem wpOwn_tuple_reprX {a : Addr} {o : Obj} {items : Array Value} {n C : Nat}
    (ha : h₀.get? a = some o) (hc : o.cls = .type "tuple") (hd : o.data = .seq items n) (hT : RXs prog w h₀ d items.toList C)
    {A : Around} {g : List Code} {s : Shared} {R : Result → Shared → Prop} {base : Nat} {id : String} {rest : List Value}
    (hcg : (Code.builtin id ⟨.ref a :: rest, []⟩).isGuard = true) (hcu : (A.under (.builtin id ⟨.ref a :: rest, []⟩)).units = A.units + 1)
    (hg : A.guards = some g) (hu : A.units + (d + 1) < cLine) (hk0 : ∀ b o, h₀.get? b = some o → s.heap.get? b = some o)
    (hR : ∀ t h' u tk, t.length ≤ C + 7 → (∀ b o, s.heap.get? b = some o → h'.get? b = some o) → R (.ok (.ret (.str t u))) { s with heap := h', toks := tk })
    (hsz : base + (C + 7) ≤ sizeLine) :
    wpOwn (model prog w) A (.builtin id ⟨.ref a :: rest, []⟩) (Builtin.tupleReprAt base ⟨[.ref a], []⟩) (fun fin s' => match fin with | .done f => R (.ok f) s' | .again c' => c'.quiet = true ∧ codeAny (model prog w) A c' R s') (fun e s' => R (.error e) s') s := by
  rw [tuple_repr_tree, tupleReprUnderWay_eq]
  refine wpOwn_bind (wpOwn_stackTailAny hg (tupGuardF_off _) (tupGuardF_pos _) ?_)
  cases hn : (g.any fun c => tupGuardF (.ref a) (c, default)) with
  | true =>
    refine wpOwn_of_wpAny ?_
    show wpAny _ _ (do rule "tuple.repr.in-itself"; retStr "(...)") _ _ s
    refine wpAny_bind (wpAny_rule ?_)
    unfold retStr
    refine wpAny_bind (wpAny_mkStr (wpAny_pure ?_) (by decide))
    exact hR "(...)" s.heap s.toks (s.toks + 1) (by have : (("(...)" : String) : Str).length = 5 := rfl; omega) (fun _ _ e => e)
  | false =>
    refine wpOwn_of_wpAny ?_
    show wpAny _ _ (tupleReprRest base (.ref a)) _ _ s
    unfold tupleReprRest Builtin.Tuple.tupleItemsOf
    refine wpAny_bind (wpAny_bind (wpAny_seqItems (hk0 _ _ ha) hd (wpAny_pure ?_)))
    rw [← Array.forIn_toList]
    refine wpAny_bind (wpAny_tupFoldX (guards_under_guard hcg hg) (by rw [hcu]; omega) _ C _ _ _ _ hT (by omega) hk0 fun ts h' tk hts hp hkp => ?_)
    have hlen : ts.length = items.size := by simpa using hts
    have hle := tupleText_le ts
    unfold retStr
    refine wpAny_bind (wpAny_mkStr (wpAny_pure ?_) (by
      have : (tupleText ts).length ≤ sizeLine := by omega
      simpa [tupleText, hlen] using this))
    have h1 := hR (tupleText ts) h' tk (tk + 1) (by omega) hkp
    simpa [tupleText, hlen] using h1
theorem RX.tup {a : Addr} {o : Obj} {items : Array Value} {n C : Nat} (ha : h₀.get? a = some o) (hc : o.cls = .type "tuple") (hd : o.data = .seq items n) (hT : RXs prog w h₀ d items.toList C) : RX prog w h₀ (d + 1) (C + 7) (.ref a) := by
  intro base hb A g E s Q hg hu hk0 hQ
  refine wpAny_pyReprUnder_ref (by omega) (wpAny_pyReprObjUnder_twin (twin := "tuple.__repr__.under") ⟨o, hk0 _ _ ha, hc⟩ F.slot_tuple_repr rfl (by omega) ?_)
  exact call_twin_own (F.quiet_tuple_repr_under _) F.entry_tuple_repr_under F.check_tuple_repr_under ⟨o, hk0 _ _ ha, hc⟩ F.slot_tuple_repr (F.args_tuple_repr_1 _)
    (wpOwn_tuple_reprX (R := callEnd _ E) ha hc hd hT (isGuard_tuple_repr_under _) (units_under_tuple_repr_under _ _) hg hu hk0 (fun t h' u tk ht hk => ⟨⟨_, _, rfl⟩, _, _, rfl, hQ t h' tk ht hk⟩) (by omega))
/-- at the top -/
theorem top_tup {a : Addr} {o : Obj} {items : Array Value} {n C : Nat} (ha : h₀.get? a = some o) (hc : o.cls = .type "tuple") (hd : o.data = .seq items n) (hT : RXs prog w h₀ d items.toList C)
    {A : Around} {g : List Code} {E : Value → Shared → Prop} {s : Shared} {Q : Value → Shared → Prop} (hg : A.guards = some g) (hu : A.units + (d + 1) < cLine) (hk0 : ∀ b o, h₀.get? b = some o → s.heap.get? b = some o)
    (hQ : ∀ t h' u tk, t.length ≤ C + 7 → (∀ b o, s.heap.get? b = some o → h'.get? b = some o) → Q (.str t u) { s with heap := h', toks := tk }) (hsz : C + 7 ≤ sizeLine) : wpAny (model prog w) A (pyReprObj (.ref a)) Q E s := by
  refine wpAny_pyReprObj_slot (by omega) ⟨o, hk0 _ _ ha, hc⟩ F.slot_tuple_repr ?_
  exact wpAny_call (codeAny_call_builtin_own (Code.quiet_builtin _ (by decide +kernel)) F.entry_tuple_repr (F.slot_tuple_repr.check _ _ _ _ _ _ _ _ ⟨o, hk0 _ _ ha, hc⟩ (F.args_tuple_repr_1 _)
    (wpOwn_tuple_reprX (base := 0) (R := callEnd _ E) ha hc hd hT (isGuard_tuple_repr _) (units_under_tuple_repr _ _) hg hu hk0 (fun t h' u tk ht hk => ⟨_, _, rfl, hQ t h' u tk ht hk⟩) (by omega))))
/-! lists of plain values -/
theorem wpAny_list_repr_in {M : Model} {A : Around} {E : Value → Shared → Prop} {s : Shared} {Q : Fin → Shared → Prop} {a : Addr} {o : Obj} {x : Value} {l : List Value} {n} {b : Nat}
    (hget : s.heap.get? a = some o) (hd : o.data = .seq (x :: l).toArray n)
    (h1 : wpAny M A (do again (.builtin "list.__repr__.loop" ⟨[.ref a, rawInt 0, ← newList [], rawInt b], []⟩)) Q E s) (h2 : wpAny M A (do rule "list.repr.in-itself"; retStr "[...]") Q E s) : wpAny M A (Builtin.listReprAt b ⟨[.ref a], []⟩) Q E s := by
  intro Γ p hΓ
  have h1 := h1 Γ p hΓ
  have h2 := h2 Γ p hΓ
  unfold Builtin.listReprAt
  simp [slotArgs, Builtin.List.listItems, seqItems?, wp_load_of (h := hget), hd, stack]
  show wp M Γ (if (Γ.below.any _) = true then _ else _) _ _ p s
  split
  · simpa using h2
  · exact h1
end
/-- what is not known of what is under way may be said -/
theorem wpAny_guards {α : Type} {M : Model} {A : Around} {m : Sem α} {Q : α → Shared → Prop} {E : Value → Shared → Prop} {s : Shared} (h : ∀ g, wpAny M { A with guards := some g } m Q E s) : wpAny M A m Q E s := by
  intro Γ p hΓ
  exact h (Γ.code.guards ++ guardsOf Γ.below) Γ p ⟨hΓ.1, hΓ.2.1, hΓ.2.2.1, fun g hg => by cases hg; rfl, hΓ.2.2.2.2⟩
end PySem
set_option Elab.async false
set_option linter.all false
set_option maxRecDepth 100000
set_option maxHeartbeats 4000000
/-! XExcD: errors that tell data of any depth in their message ({x!r}). -/
namespace PySem
open Sem
/-- data without dicts, lists of plain values alone -/
def plainD : PyData → Bool
  | .none => true
  | .bool _ => true
  | .int _ => true
  | .str _ => true
  | _ => false
mutual
def okR : PyData → Bool
  | .tuple xs => okRs xs
  | .list xs => xs.all plainD
  | .dict _ => false
  | _ => true
def okRs : List PyData → Bool
  | [] => true
  | x :: r => okR x && okRs r
end
mutual
/-- how long the text can be -/
def tbR : PyData → Nat
  | .tuple xs => tbRs xs + 7
  | d => d.shown.length + 7
def tbRs : List PyData → Nat
  | [] => 0
  | x :: r => tbR x + 2 + tbRs r
end
section
variable {prog : Program} {w : World} {h₀ : Heap}
theorem leaf_is {v : Value} {d : PyData} {as : List Addr} (r : Reads h₀ v d as) (hp : plainD d = true) (hs : d.showable = true) (hz : d.shown.length ≤ sizeLine) : ReprIs prog w v d.shown := by
  cases r with
  | none => simpa only [PyData.shown] using ReprIs.none
  | bool b => simpa only [PyData.shown] using ReprIs.bool b
  | int i t => simpa only [PyData.shown] using ReprIs.int t (by simpa [PyData.showable] using hs)
  | str x t => simpa only [PyData.shown] using ReprIs.str x t (by simpa only [PyData.shown] using hz)
  | list _ _ _ _ => cases hp
  | tuple _ _ _ _ => cases hp
  | dict _ _ _ _ _ => cases hp
theorem leaves_are : ∀ {vs : List Value} {ds : List PyData} {as : List Addr}, ReadsAll h₀ vs ds as → ds.all plainD = true → PyData.showableAll ds = true → (∀ t ∈ PyData.shownAll ds, t.length ≤ sizeLine) →
    (PyData.shownAll ds).length = vs.length ∧ ∀ (i : Nat) (y : Value), vs[i]? = some y → ∃ t, (PyData.shownAll ds)[i]? = some t ∧ ReprIs prog w y t
  | _, _, _, .nil, _, _, _ => ⟨by simp [PyData.shownAll], fun i y h => by simp at h⟩
  | _, _, _, .cons (d := d) (ds := ds) h1 h2, hp, hs, hz => by
    rw [List.all_cons, Bool.and_eq_true] at hp
    simp only [PyData.showableAll, Bool.and_eq_true] at hs
    simp only [PyData.shownAll, List.mem_cons] at hz
    obtain ⟨e1, e2⟩ := leaves_are h2 hp.2 hs.2 fun t ht => hz t (.inr ht)
    refine ⟨by simp only [PyData.shownAll, List.length_cons, e1], fun i y h => ?_⟩
    simp only [PyData.shownAll]
    cases i with
    | zero =>
      rw [List.getElem?_cons_zero] at h
      cases h
      exact ⟨_, rfl, leaf_is h1 hp.1 hs.1 (hz _ (.inl rfl))⟩
    | succ i =>
      rw [List.getElem?_cons_succ] at h ⊢
      exact e2 i y h
theorem wpAny_list_reprX {a : Addr} {oa : Obj} {x : Value} {l : List Value} {na : Nat} {ts : List Str} {A : Around} {s : Shared} {R : Result → Shared → Prop} {base : Nat}
    (ha : s.heap.get? a = some oa) (hda : oa.data = .seq (x :: l).toArray na) (hlen : ts.length = (x :: l).toArray.size) (hT : ∀ (i : Nat) (y : Value), (x :: l).toArray[i]? = some y → ∃ t, ts[i]? = some t ∧ ReprIs prog w y t)
    (hR : ∀ t h' u tk, t.length ≤ (listText ts).length + 7 → (∀ b o, s.heap.get? b = some o → h'.get? b = some o) → R (.ok (.ret (.str t u))) { s with heap := h', toks := tk }) (hsz : base + ((listText ts).length + 7) ≤ sizeLine) :
    wpAny (model prog w) A.in1 (Builtin.listReprAt base ⟨[.ref a], []⟩) (fun fin s' => match fin with | .done f => R (.ok f) s' | .again c' => c'.quiet = true ∧ codeAny (model prog w) A c' R s') (fun e s' => R (.error e) s') s := by
  refine wpAny_list_repr_in ha hda ?_ ?_
  · refine wpAny_bind (m := newList []) (wpAny_newObj_type ?_)
    refine wpAny_pure ⟨F.quiet_list_repr_loop _, ?_⟩
    refine codeAny_list_repr_start (P := s.heap.objs.size) (Nat.ne_of_lt (Heap.lt_size ha)) hlen hT (Heap.get?_push_of_some _ ha) hda (Heap.get?_push_size _ rfl) (fun h' u tk hk => ?_) (by omega)
    exact hR _ h' u tk (by omega) fun b o e => hk b o (Nat.ne_of_lt (Heap.lt_size e)) (Heap.get?_push_of_some _ e)
  · refine wpAny_bind (wpAny_rule ?_)
    unfold retStr
    refine wpAny_bind (wpAny_mkStr (wpAny_pure ?_) (by decide))
    exact hR "[...]" s.heap s.toks (s.toks + 1) (by have : (("[...]" : String) : Str).length = 5 := rfl; omega) (fun _ _ e => e)
mutual
theorem rx_of : ∀ {d : PyData} {v : Value} {as : List Addr}, Reads h₀ v d as → okR d = true → d.showable = true → tbR d ≤ sizeLine → RX prog w h₀ d.depth (tbR d) v
  | .none, _, _, r, _, hs, hz => .leaf (leaf_is r rfl hs (by simp only [tbR] at hz; omega)) (by simp only [tbR]; omega)
  | .bool b, _, _, r, _, hs, hz => .leaf (leaf_is r rfl hs (by simp only [tbR] at hz; omega)) (by simp only [tbR]; omega)
  | .int i, _, _, r, _, hs, hz => .leaf (leaf_is r rfl hs (by simp only [tbR] at hz; omega)) (by simp only [tbR]; omega)
  | .str x, _, _, r, _, hs, hz => .leaf (leaf_is r rfl hs (by simp only [tbR] at hz; omega)) (by simp only [tbR]; omega)
  | .dict _, _, _, _, ho, _, _ => by simp [okR] at ho
  | .tuple xs, _, _, .tuple (a := a) h1 h2 h3 h4, ho, hs, hz => by
    simp only [okR] at ho
    simp only [PyData.showable] at hs
    simp only [tbR] at hz ⊢
    have h := rxs_of h4 ho hs (by omega)
    exact RX.tup h1 h2 h3 h
  | .list xs, _, _, .list (a := a) (vs := vs) h1 h2 h3 h4, ho, hs, hz => by
    simp only [okR] at ho
    simp only [PyData.showable] at hs
    simp only [tbR, PyData.shown] at hz ⊢
    obtain ⟨e1, e2⟩ := leaves_are (prog := prog) (w := w) h4 ho hs fun t ht => Nat.le_trans (listText_mem_le ht) (by omega)
    intro base hb A g E s Q hg hu hk0 hQ
    simp only [PyData.depth] at hu
    obtain ⟨l⟩ := vs
    cases l with
    | nil =>
      refine wpAny_pyReprUnder_ref (by omega) (wpAny_pyReprObjUnder_list_empty ⟨_, hk0 _ _ h1, h2⟩ (by omega) (hk0 _ _ h1) h3 ⟨_, _, rfl, hQ "[]" s.heap _ ?_ fun _ _ e => e⟩)
      have : (("[]" : String) : Str).length = 2 := rfl
      omega
    | cons x l =>
      refine wpAny_pyReprUnder_ref (by omega) (wpAny_pyReprObjUnder_twin (twin := "list.__repr__.under") ⟨_, hk0 _ _ h1, h2⟩ F.slot_list_repr.toG rfl (by omega) ?_)
      exact call_twin_plain F.plain_list_repr_under F.entry_list_repr_under F.check_list_repr_under ⟨_, hk0 _ _ h1, h2⟩ F.slot_list_repr.toG (F.args_list_repr_1 _)
        (wpAny_list_reprX (R := callEnd _ E) (hk0 _ _ h1) h3 (by simpa using e1) (fun i y e => e2 i y (by simpa using e)) (fun t h' u tk ht hk => ⟨⟨_, _, rfl⟩, _, _, rfl, hQ t h' tk ht hk⟩) hb)
theorem rxs_of : ∀ {ds : List PyData} {vs : List Value} {as : List Addr}, ReadsAll h₀ vs ds as → okRs ds = true → PyData.showableAll ds = true → tbRs ds ≤ sizeLine → RXs prog w h₀ (PyData.depthAll ds) vs (tbRs ds)
  | [], _, _, .nil, _, _, _ => .nil
  | d :: ds, _, _, .cons h1 h2, ho, hs, hz => by
    simp only [okRs, Bool.and_eq_true] at ho
    simp only [PyData.showableAll, Bool.and_eq_true] at hs
    simp only [tbRs] at hz ⊢
    simp only [PyData.depthAll]
    have a := rx_of h1 ho.1 hs.1 (by omega)
    have b := rxs_of h2 ho.2 hs.2 (by omega)
    exact .cons (a.level (Nat.le_max_left _ _)) (b.level (Nat.le_max_right _ _))
end
end
namespace XExc
open PySem.W PySem.Calls PyProof.Rows PySem.HandSPX
/-- repr(v), whatever is under way -/
structure Td (prog : Program) (w : World) (h₀ : Heap) (v : Value) : Prop where
  run : ∀ (A : Around) (E : Value → Shared → Prop) (s : Shared) (Q : Value → Shared → Prop), A.units + 70 < cLine → (∀ b o, h₀.get? b = some o → s.heap.get? b = some o) →
    (∀ y h' u tk, y.length ≤ 100000 → (∀ b o, s.heap.get? b = some o → h'.get? b = some o) → Q (.str y u) { s with heap := h', toks := tk }) → wpAny (model prog w) A (pyReprObj v) Q E s
theorem Td.keeps {prog : Program} {w : World} {h₀ h₁ : Heap} {v : Value} (t : Td prog w h₀ v) (k : ∀ b o, h₀.get? b = some o → h₁.get? b = some o) : Td prog w h₁ v := ⟨fun A E s Q hu hk hQ => t.run A E s Q hu (fun b o e => hk b o (k b o e)) hQ⟩
theorem td_of {prog : Program} {w : World} {h₀ : Heap} {v : Value} {d : PyData} {as : List Addr} (r : Reads h₀ v d as) (ho : okR d = true) (hs : d.showable = true) (hz : tbR d ≤ 100000) (hd : d.depth ≤ 64) : Td prog w h₀ v := by
  have z : ∀ n : Nat, n ≤ 200000 → n ≤ sizeLine := fun n hn => Nat.le_trans hn (by decide)
  refine ⟨fun A E s Q hu hk hQ => ?_⟩
  cases r with
  | none =>
    exact pyReprObj_none (hQ "None" s.heap _ _ (by have : (("None" : String) : Str).length = 4 := rfl; omega) fun _ _ e => e)
  | bool b =>
    exact pyReprObj_bool (hQ _ s.heap _ _ (by cases b <;> decide) fun _ _ e => e)
  | int i t =>
    simp only [tbR, PyData.shown] at hz
    exact pyReprObj_int (by simpa [PyData.showable] using hs) (hQ _ s.heap _ _ (by omega) fun _ _ e => e)
  | str x t =>
    simp only [tbR, PyData.shown] at hz
    exact pyReprObj_str (hQ _ s.heap _ _ (by omega) fun _ _ e => e) (z _ (by omega))
  | @tuple a o vs n xs as h1 h2 h3 h4 =>
    simp only [okR] at ho
    simp only [PyData.showable] at hs
    simp only [tbR] at hz
    simp only [PyData.depth] at hd
    refine wpAny_guards fun g => ?_
    exact top_tup h1 h2 h3 (rxs_of h4 ho hs (z _ (by omega))) rfl (show A.units + (PyData.depthAll xs + 1) < cLine by omega) hk (fun t h' u tk ht hk' => hQ t h' u tk (by omega) hk') (z _ (by omega))
  | @list a o vs n xs as h1 h2 h3 h4 =>
    simp only [okR] at ho
    simp only [PyData.showable] at hs
    simp only [tbR, PyData.shown] at hz
    simp only [PyData.depth] at hd
    obtain ⟨e1, e2⟩ := leaves_are (prog := prog) (w := w) h4 ho hs fun t ht => Nat.le_trans (listText_mem_le ht) (z _ (by omega))
    obtain ⟨l⟩ := vs
    cases l with
    | nil => exact wpAny_pyReprObj_list_empty ⟨_, hk _ _ h1, h2⟩ (by omega) (hk _ _ h1) h3 (hQ "[]" s.heap _ _ (by have : (("[]" : String) : Str).length = 2 := rfl; omega) fun _ _ e => e)
    | cons x l =>
      refine wpAny_pyReprObj_slot (by omega) ⟨_, hk _ _ h1, h2⟩ F.slot_list_repr.toG ?_
      exact wpAny_call (codeAny_call_builtin F.slot_list_repr.plain F.entry_list_repr (F.slot_list_repr.check _ _ _ _ _ _ _ _ ⟨_, hk _ _ h1, h2⟩ (F.args_list_repr_1 _)
        (wpAny_list_reprX (base := 0) (R := callEnd _ E) (hk _ _ h1) h3 (by simpa using e1) (fun i y e => e2 i y (by simpa using e)) (fun t h' u tk ht hk' => ⟨_, _, rfl, hQ t h' u tk (by omega) hk'⟩) (z _ (by omega)))))
  | @dict a o es n kvs as bs h1 h2 h3 h4 h5 => simp [okR] at ho
def cvOf (o : Obj) : Int := match o.data with
  | .func fd => (match fd.body with
    | .stmts ((.Expr (.Call _ (.JoinedStr (_ :: .FormattedValue _ cv _ _ :: _) _ :: _) _ _) _) :: _) => cv
    | _ => 0)
  | _ => 0
/-- the message shows the thing by its repr -/
def CvR (K : Frag) (fI : Addr) : Prop := ∃ o, K.lookup fI = some o ∧ cvOf o = 114
theorem CvR.eq {K : Frag} {fI : Addr} {oc kV doc pm ct : Value} {od an : Option Addr} {osl : Array (Option Value)} {qual fld msg : Str} {cda cc : Addr} {p1 p2 : Pos} {q : Ps} (h : CvR K fI)
    (ho : K.lookup fI = some ⟨oc, od, .func (ksFn "__init__" qual (iA fld p1 p2) (iB fld msg q) (iS fld) .none kV doc pm an (.ref cda) ct cc), osl⟩) : q.cv = 114 := by
  obtain ⟨o, h1, h2⟩ := h
  rw [ho] at h1
  cases h1
  exact h2
section
variable {prog : Program} {w : World} {A : Around} {E : Value → Shared → Prop} {s : Shared}
theorem told_okD {fld msg : Str} {env : Env} {q : Ps} {m : Str → Option Value} {v : Value} {h₀ : Heap} {Q : Value → Shared → Prop} (hn : s.heap.Ns env.locals m) (hv : m fld = some v) (ecv : q.cv = 114) (hr : Td prog w h₀ v) (hk0 : ∀ b o, h₀.get? b = some o → s.heap.get? b = some o) (hu : A.units + 80 < cLine)
    (hml : msg.length ≤ 1000) (hk : env.scope.kind = .function) (hl : env.kindOf fld = some .local) (hd : (fld == ("__debug__" : Str)) = false)
    (h : ∀ u tk h', (∀ b o, s.heap.get? b = some o → h'.get? b = some o) → Q u { s with heap := h', toks := tk }) : wpAny (model prog w) A (eval (iArg fld msg q) env) Q E s := by
  unfold iArg
  have sm : ∀ n : Nat, n ≤ 200000 → n ≤ sizeLine := fun n hn => Nat.le_trans hn (by decide)
  rw [ecv]
  refine wpAny_JoinedStr ?_
  have e0 : evalEach [Expr.Constant (.str msg) 0 q.d, .FormattedValue (.Name fld q.e) 114 none q.f] env = [eval (.Constant (.str msg) 0 q.d) env, eval (.FormattedValue (.Name fld q.e) 114 none q.f) env] := by first | rfl | simp [evalEach]
  rw [e0]
  refine Calls.Constant_str ⟨msg, _, rfl, ?_, ?_⟩
  · rw [Str.length_append]
    exact sm _ (by show 0 + msg.length ≤ _; omega)
  refine wpAny_FormattedValue_repr (ESX.ldL hn hv ?_ hk hl hd)
  refine hr.run _ _ _ _ ?hU hk0 fun y h' u tk hy hk' => ?_
  case hU => first | (show A.units + 70 < cLine; omega) | (simp [Around.under, Around.in1, Code.cUnits]; omega)
  have hl : (Str.empty ++ msg ++ y).length ≤ sizeLine := by
    rw [Str.length_append, Str.length_append]
    exact sm _ (by show 0 + msg.length + _ ≤ _; omega)
  have out : ∀ (tk : Tok) (tt : Nat), ∃ (y' : Str) (t' : Tok), Value.str y tk = .str y' t' ∧ (Str.empty ++ msg ++ y').length ≤ sizeLine ∧ Joins (model prog w) A E [] (Str.empty ++ msg ++ y') (fun out s₁ => out.length ≤ sizeLine ∧ Q (.str out s₁.toks) { s₁ with toks := s₁.toks + 1 }) { s with heap := h', toks := tt } := fun tk tt => ⟨_, _, rfl, hl, hl, h _ _ h' hk'⟩
  exact wpAny_formatField_str (out _ _) (out _ _) (sm _ (by omega))
end
section
variable {prog : Program} {w : World} {A : Around} {E : Value → Shared → Prop} {R : Result → Shared → Prop} {K : Frag} {mg mb : Str → Option Value} {nm fld msg : Str} {C fI : Addr}
theorem exc_initD (hcv : CvR K fI) (T : ExTxt prog K mg nm fld msg C fI) {x t0 : Addr} {v : Value} {hp : Heap} {g : Array GenState} {dr : Drawn} {tk : Nat} {os : OsState} (X : K.In hp) (hlim : hp.NoLimit) (hG : hp.Ns mainGlobals mg) (hB : hp.Ns builtinsNs mb) (hbb : ∀ x : Str, x ≠ "__name__" → mb x = bootBuiltins x)
    (hx : hp.get? x = some (excO C t0)) (hnx : K.lookup x = none) (hroom : A.depth < recursionLimit) (hun : A.units + 90 < cLine) (hr : Td prog w hp v)
    (hq : ∀ h' tk' dx, InitEnd hp h' x C dx fld v → R (.ok (.ret .none)) ⟨h', g, dr, tk', os⟩) :
    codeAny (model prog w) A (.call (.ref fI) ⟨[.ref x, v], []⟩) R ⟨hp, g, dr, tk, os⟩ := by
  obtain ⟨oc, kV, doc, pm, ct, od, an, osl, qual, cda, cc, p1, p2, q, vs, file, tf, ccl, cl, cdd, cld, ccs, csl, ho, hcd, hcda, hvs, hfile, hcc, ⟨pl, hev⟩, hbind⟩ := T.fn
  obtain ⟨nm', q', N, bs, bm, sn, sub, ab, col, dd, k0, k1, k2, k3, k5, hC, hbm⟩ := T.cls
  have hcl : clsIn K C = some { name := nm', bases := bs, mro := .ref C :: bm, ns := N, qualname := q', hasDict := true, slotNames := sn, subclasses := sub, abstract := ab, collection := col, hasDel := false } := by unfold clsIn; rw [hC] <;> rfl
  have e1 : (iS fld).names.lookup fld = some .local := by
    show (iN fld).lookup fld = _
    unfold iN
    have z : (fld == PySem.Str.ofString "self") = false := by simpa using T.f1
    simp [List.lookup, z]
  have e2 : (iS fld).names.lookup ("self" : Str) = some .local := rfl
  have e3 : (iS fld).names.lookup ("__class__" : Str) = some .free := by
    show (iN fld).lookup ("__class__" : Str) = _
    unfold iN
    have z : (("__class__" : Str) == fld) = false := by simpa using Ne.symm T.f2
    have z2 : (("__class__" : Str) == PySem.Str.ofString "self") = false := by decide
    simp [List.lookup, z, z2]
  have e4 : (iS fld).names.lookup ("super" : Str) = some .globalImplicit := by
    show (iN fld).lookup ("super" : Str) = _
    unfold iN
    have z : (("super" : Str) == fld) = false := by simpa using Ne.symm T.f3
    have z2 : (("super" : Str) == PySem.Str.ofString "self") = false := by decide
    have z3 : (("super" : Str) == PySem.Str.ofString "__class__") = false := by decide
    simp [List.lookup, z, z2, z3]
  refine ks_codeAny_call_defAt (fd := ksFn "__init__" qual (iA fld p1 p2) (iB fld msg q) (iS fld) .none kV doc pm an (.ref cda) ct cc) (body := iB fld msg q) (binds := [("self", .ref x), (fld, v)]) hroom (X _ _ ho) rfl hlim (codeRec_of X hcd) rfl (BindsTo.of_eq (hbind _ _)) ?_ ?_ (fun h₁ hn k => ?_) rfl rfl rfl
  · intro y hy
    have hy : y ∈ iN fld := hy
    unfold iN at hy
    simp only [List.mem_cons, List.not_mem_nil, or_false] at hy
    rcases hy with rfl | rfl | rfl | rfl <;> exact fun z => nomatch z
  · intro y hy
    simp only [List.mem_cons, List.not_mem_nil, or_false] at hy
    rcases hy with rfl | rfl
    · exact e2
    · exact e1
  have X₁ : K.In h₁ := X.keeps k
  have hxL : hp.objs.size ≠ x := Nat.ne_of_gt (Heap.lt_size hx)
  have hx₁ := k _ _ hx
  have mS : List.lookup ("self" : Str) (List.reverse [(("self" : Str), Value.ref x), (fld, v)]) = some (.ref x) := by
    show List.lookup ("self" : Str) [(fld, v), (("self" : Str), Value.ref x)] = _
    have z : (("self" : Str) == fld) = false := by simpa using Ne.symm T.f1
    simp [List.lookup, z]
  have mF : List.lookup fld (List.reverse [(("self" : Str), Value.ref x), (fld, v)]) = some v := by
    show List.lookup fld [(fld, v), (("self" : Str), Value.ref x)] = _
    simp [List.lookup]
  refine ks_wpAt_execs_cons (ks_wpAt_Expr_any (ks_wpAt_MethodCall (o := iSup q) (name := "__init__") (he := hev _) ?_))
  have oC := X₁ _ _ hC
  refine ks_wpAt_super_base (env := callEnv (ksFn "__init__" qual (iA fld p1 p2) (iB fld msg q) (iS fld) .none kV doc pm an (.ref cda) ct cc) hp.objs.size fI) e4 e3 (by decide) rfl (X₁ _ _ ho) rfl rfl rfl (X₁ _ _ hcda) rfl hvs hfile T.htop ?_
  refine ks_loadName_global rfl e4 (loadGlobal_builtin (hG.keeps k) T.hsup (hB.keeps k) ((hbb _ (by decide +kernel)).trans (by first | boot_by_name | rfl | kernel_rfl)) ⟨rfl, ?_⟩)
  refine wpAny_loadName_free rfl e3 rfl ⟨_, X₁ _ _ hcc, rfl⟩ ?_
  refine wpAny_loadName_local rfl e2 hn mS ?_
  refine ks_wpAny_isType_cls oC rfl ⟨rfl, ?_⟩
  refine ks_wpAny_call_super oC rfl hx₁ rfl (fun c e => (nomatch e)) (looks_mroIn X₁ T.mroS) (fun h₂ hso k₂ => ?_)
  have X₂ : K.In h₂ := X₁.keeps k₂
  have hx₂ := k₂ _ _ hx₁
  have hsup : alongIn K "__init__" (((Value.ref C :: bm).dropWhile (· != .ref C)).drop 1) = some (some (.builtin "ValueError.__init__")) := by
    have z := T.sup
    unfold ks_superIn at z
    rw [hcl] at z
    exact z
  have I₂ : InstAt h₂ x (excO C t0) C none := ⟨hx₂, rfl, rfl, trivial⟩
  refine kxs_getMethod kxs_ValueError hso (looks_opaque X₂ T.opq) (l₀ := .ref C :: bm) ?_ rfl X₂ hsup (I₂.type.andThen (looks_subIn X₂ T.subV)) (ks_ne X₂ I₂ hcl) (by decide) ?_
  · exact fun A Q E s k q => wpAny_bind ((looks_clsIn X₂ hcl) A _ E s k (wpAny_pure q))
  have hu : (h₂.push (kxs_mw "ValueError.__init__" x)).get? h₂.objs.size = some (kxs_mw "ValueError.__init__" x) := Heap.get?_push_at rfl rfl
  have k₃ : ∀ b o, h₂.get? b = some o → (h₂.push (kxs_mw "ValueError.__init__" x)).get? b = some o := fun b o e => Heap.get?_push_of_some _ e
  have X₃ := X₂.keeps k₃
  have hn₃ : (h₂.push (kxs_mw "ValueError.__init__" x)).Ns hp.objs.size _ := (hn.keeps k₂).keeps k₃
  refine kxs_callWith (i := "ValueError.__init__") (x := x) rfl (evalArgs_plain ?_)
  show wpAny _ _ (spliced ((false, eval (iArg fld msg q) _) :: backTo q.h (starEach [] _))) _ _ _
  refine Calls.spliced_cons (told_okD hn₃ mF (hcv.eq ho) hr (fun b o e => k₃ _ _ (k₂ _ _ (k _ _ e))) ?hU T.ml rfl e1 T.f4 fun u tk' h' k' => Calls.spliced_nil ⟨k' _ _ hu, ?_⟩)
  case hU => first | exact hun | (show A.units + _ + 80 < cLine; omega) | (simp [Around.under, Around.in1, Code.cUnits]; omega)
  have k3' : ∀ b o, h₂.get? b = some o → h'.get? b = some o := fun b o e => k' _ _ (k₃ _ _ e)
  show wpAny _ _ (call (.ref h₂.objs.size) [u]) _ _ _
  refine call_mw (k' _ _ (X₃ _ _ hC)) (k3' _ _ hx₂) (k' _ _ hu) (one_size _) fun h₄ t1 k₄ sz₄ hx₄ => ?_
  show wpAt _ _ _ (execs _ _) _ _ _
  refine wpAt_of_wpAny ?_
  have X₄ : K.In h₄ := kept_but (X₃.keeps k') hnx k₄
  have hn₄ : h₄.Ns hp.objs.size (fun x_1 => List.lookup x_1 (List.reverse [(("self" : Str), Value.ref x), (fld, v)])) := by
    obtain ⟨oL, es, ep, hL, r⟩ := hn₃.keeps k'
    exact ⟨oL, es, ep, k₄ _ _ hxL hL, r⟩
  refine wpAny_execs_cons (plainObj_wpAny_Assign_Attribute ?_)
  refine ESX.ldL hn₄ mF (ESX.ldL hn₄ mS ?_ rfl e2) rfl e1 T.f4
  refine set_plain X₄ (ox := excO C t1) (od := none) ⟨hx₄, rfl, rfl, trivial⟩ T.sa ?_
  refine exc_osa X₄ hx₄ hcl (show refsVE (.ref C :: bm) = true from hbm) rfl T.noN (fun h₅ tk₅ dx k₅ dn dne hx₅ hn₅ => ?_)
  show wpAny _ _ (execs _ _) _ _ _
  have z : hp.objs.size < h₄.objs.size := hn₄.lt
  exact wpAny_execs_nil (hq h₅ tk₅ dx ⟨fun b o hb e => k₅ b o hb (k₄ b o hb (k3' b o (k₂ b o (k b o e)))), ⟨t1, hx₅⟩, Nat.le_of_lt (Nat.lt_of_lt_of_le z dn), dne, hn₅⟩)
theorem exc_madeD (hcv : CvR K fI) (T : ExTxt prog K mg nm fld msg C fI) {v : Value} {hp : Heap} {g : Array GenState} {dr : Drawn} {tk : Nat} {os : OsState} (X : K.In hp) (hlim : hp.NoLimit) (hG : hp.Ns mainGlobals mg) (hB : hp.Ns builtinsNs mb) (hbb : ∀ x : Str, x ≠ "__name__" → mb x = bootBuiltins x) (hroom : A.depth + 1 < recursionLimit) (hun : A.units + 95 < cLine) (hr : Td prog w hp v)
    (hq : ∀ h' tk' e d, OwnMade hp h' e C d fld v → R (.ok (.ret (.ref e))) ⟨h', g, dr, tk', os⟩) :
    codeAny (model prog w) A (.call (.ref C) ⟨[v], []⟩) R ⟨hp, g, dr, tk, os⟩ := by
  obtain ⟨nm', q', N, bs, bm, sn, sub, ab, col, dd, k0, k1, k2, k3, k5, hC, hbm⟩ := T.cls
  have k : ∀ b o, hp.get? b = some o → ((hp.push (kdv_tup [v])).push (excO C hp.objs.size)).get? b = some o := fun b o e => Heap.get?_push_of_some _ (Heap.get?_push_of_some _ e)
  have hget : ((hp.push (kdv_tup [v])).push (excO C hp.objs.size)).get? (hp.objs.size + 1) = some (excO C hp.objs.size) := by heap_get
  have hnx : K.lookup (hp.objs.size + 1) = none := by
    cases e : K.lookup (hp.objs.size + 1) with
    | none => rfl
    | some o =>
      have z : hp.get? (hp.objs.size + 1) = some o := X _ _ e
      exact absurd (Nat.lt_of_succ_lt (Heap.lt_size z)) (Nat.lt_irrefl _)
  refine call_own F.excBase_ValueError (fun X => refsVE_contains X bm hbm) (X _ _ hC) (looks_findIn X T.iC) (fun self => bind_fn X self T.tC) (one_size v) ?_
  refine exc_initD (tk := tk) hcv T (X.keeps k) (hlim.keeps k) (hG.keeps k) (hB.keeps k) hbb hget hnx ?_ ?hU (hr.keeps k) fun h' tk' dx ⟨k', ⟨t1, hx⟩, dn, dne, hns⟩ => ?_
  case hU => first | (show A.units + 90 < cLine; omega) | (show A.units + 1 + 90 < cLine; omega) | (simp [Around.under, Around.in1, Code.cUnits]; omega)
  · show A.depth + 1 < recursionLimit
    exact hroom
  · have old : ∀ b o, hp.get? b = some o → h'.get? b = some o := fun b o e => k' b o (Nat.ne_of_lt (Nat.lt_succ_of_lt (Heap.lt_size e))) (k b o e)
    have z : hp.objs.size + 1 + 1 ≤ dx := by
      first
        | (simpa only [Heap.size_push] using dn)
        | exact dn
        | (have q := dn; rw [Heap.size_push, Heap.size_push] at q; exact q)
    exact ⟨rfl, hq h' tk' (hp.objs.size + 1) dx ⟨old, Nat.le_succ _, ⟨_, _, hx, rfl, rfl, rfl, rfl⟩, Nat.le_trans (Nat.le_trans (Nat.le_succ _) (Nat.le_succ _)) z, dne, hns⟩⟩
end
end XExc
end PySem
namespace XL
open PySem PySem.Spec PyProof.Rows L2
/-- what can be told: data of bounded size -/
def RpD (K : PySem.W.Frag) (H : Hp) (v : V) : Prop := ∃ d, Dp K H v d ∧ okR d = true ∧ d.showable = true ∧ tbR d ≤ 100000 ∧ d.depth ≤ 64
theorem RpD.td {X : Cx} {pins : List (Addr × Obj)} {σ : L2.St} {H : Hp} {s : Shared} {v : V} {u : Value} (I : Inv X pins σ H s) (h : RpD X.K H v) (r : RelV v u) : PySem.XExc.Td X.prog X.w s.heap u := by
  obtain ⟨d, hd, h1, h2, h3, h4⟩ := h
  obtain ⟨as, rd⟩ := Dp.reads I d v u hd r
  exact PySem.XExc.td_of rd h1 h2 h3 h4
section
variable {X : Cx} {C fI : Addr} {nm fld msg : Str}
def tMkD (K : PySem.W.Frag) (C : Addr) (fld : Str) (ta : TA) : L2.St → Hp → XK → Prop := fun σ H Q => ta σ H fun vs H1 => ∃ v, vs = [v] ∧ RpD K H1 v ∧ ∀ d, H1 d = none → Q (.ref C) (some d) (upd H1 d (.xd [(fld, v)]))
theorem pmk_xD {a : Expr} {ta : TA} {p pos : Pos} {k : Nat} (hcv : PySem.XExc.CvR X.K fI) (T : PySem.XExc.ExTxt X.prog X.K X.mg nm fld msg C fI) (hr : Room (k + 1) X.A) (ha : PA X [a] ta) (hg : Gl X nm := by rfl) (hd : (nm == ("__debug__" : Str)) = false := by decide)
    (he : starEach (a :: []) X.env = (false, eval a X.env) :: starEach [] X.env := by rfl) (hpl : (backTo pos (starEach [] X.env)).any (·.1) = false := by rfl) :
    PMk X (.Call (.Name nm p) [a] [] pos) (tMkD X.K C fld ta) := by
  intro pins s σ H Q I h
  refine wpAny_Call_Name_kw (ld_glob I hg T.gC ?_ hd)
  refine PySem.W.callWith_K (h₀ := X.base) I.ok.mod.kin T.kC (thn (ha.run pos pins s σ H _ I h) fun us s1 hh => ?_) he hpl
  obtain ⟨vs, H1, I1, r1, v, ev, rp, q1⟩ := hh
  subst ev
  refine ⟨I1.kIn, ?_⟩
  cases r1 with
  | cons rv rn =>
    rename_i v' us'
    cases rn
    show wpAny _ _ (call (.ref C) [v']) _ _ _
    have hlim := I1.nolimit
    have hG := I1.mod.glob.keeps I1.bk
    obtain ⟨mb, hB, hbb⟩ := I1.mod.blt
    have hB := hB.keeps I1.bk
    obtain ⟨hp, g, dr, tk, os⟩ := s1
    refine wpAny_call (PySem.XExc.exc_madeD hcv T I1.kIn hlim hG hB hbb (by have := hr.dp; omega) (by have := hr.un; omega) (RpD.td I1 rp rv) fun h' tk' e d M => ?_)
    show MkP X pins σ Q (.ref e) ⟨h', g, dr, tk', os⟩
    obtain ⟨oe, fv, hoe, hc, hd, hdat, h1⟩ := M.obj
    have hns := M.ns
    obtain ⟨G', g1, g2⟩ := restrict h' fun b => decide (b ≠ e)
    have gk : ∀ b, b ≠ e → G'.get? b = h'.get? b := fun b hb => g1 b (decide_eq_true hb)
    have ge : G'.get? e = none := g2 e (by simp)
    have old : ∀ b o, hp.get? b = some o → G'.get? b = some o := fun b o q => (gk b (Nat.ne_of_lt (Nat.lt_of_lt_of_le (Heap.lt_size q) M.new))).trans (M.keep b o q)
    have ob : ObjOk X.prog X.w (upd H1 d (.xd [(fld, v)])) G' d (.xd [(fld, v)]) :=
      ⟨_, hns.at (fun o q => (gk d M.dne).trans q), fun f => relO_one rv f⟩
    have J : Inv X pins σ (upd H1 d (.xd [(fld, v)])) ⟨G', g, dr, tk', os⟩ := I1.laid (t' := tk') old M.dbig ob
    refine ⟨e, oe, fv, ⟨G', g, dr, tk', os⟩, _, .ref C, some d, rfl, J, fun b o q => ?_, ge, hoe, ⟨hc, hd⟩, hdat, h1, ?_, rfl, I1.bare, raises_own T.exC T.tyC, q1 d (I1.hok.fresh M.dbig)⟩
    · by_cases hb : b = e
      · have q' : G'.get? b = some o := q
        rw [hb, ge] at q'; cases q'
      · exact (gk b hb).symm.trans q
    · rw [upd_ne (Ne.symm M.dne)]
      exact I1.hok.fresh M.new
def tRaiseD (K : PySem.W.Frag) (C : Addr) (fld : Str) (W : WX) (ta : TA) : TS := fun _ σ H => tMkD K C fld ta σ H fun cls d H' => W cls d σ H'
theorem ps_raiseD {a : Expr} {ta : TA} {W : WX} {p pos pos2 : Pos} {k : Nat} (hc : X.calm = true) (hcv : PySem.XExc.CvR X.K fI) (T : PySem.XExc.ExTxt X.prog X.K X.mg nm fld msg C fI) (hr : Room (k + 1) X.A) (tk : Takes X W) (ha : PA X [a] ta) (hg : Gl X nm := by rfl) (hd : (nm == ("__debug__" : Str)) = false := by decide)
    (he : starEach (a :: []) X.env = (false, eval a X.env) :: starEach [] X.env := by rfl) (hpl : (backTo pos (starEach [] X.env)).any (·.1) = false := by rfl) :
    PS X (.Raise (some (.Call (.Name nm p) [a] [] pos)) none pos2) (tRaiseD X.K C fld W ta) := ps_raise hc tk (pmk_xD hcv T hr ha hg hd he hpl)
end
end XL
set_option Elab.async false
set_option linter.all false
set_option maxRecDepth 100000
set_option maxHeartbeats 4000000
/-! XStatic: staticmethods called through their class; x(*y) with the written part said. -/
namespace XL
open PySem PySem.Spec PyProof.Rows L2
/-- C.m is a staticmethod: its def at g -/
def SMet (K : PySem.W.Frag) (C : Addr) (mc : Value) (m : Str) (g : Addr) : Prop := ∃ p, PySem.W.findCls K (.ref C) mc m = some (.get (.builtin "staticmethod.__get__") (.ref p) .none (.ref C)) ∧ (∃ rest, PySem.W.recIn K p "staticmethod" = some (.ref g :: rest)) ∧ PySem.W.keepIn K (.ref g) = true
section
variable {X : Cx} {CX : CXT} {k : Nat} {C g : Addr} {mc : Value} {fd : FuncData} {ps : List Str} {sp : Sp} {E : XK} {o e : Expr} {es : List Expr} {m : Str} {pos apos : Pos} {ta : TE} {t : TA} {pl : Sem Bool}
theorem pe_smeth (he : PE X o ta) (r : ClX.CRead X.K C mc) (c : SMet X.K C mc m g) (F : FnOk X.prog X.w X.K X.mg X.base CX k g fd ps sp) (hr : Room k X.A) (hb : Binds X.K fd ps []) (hx : Passes CX X E) (ha : PA X (e :: es) t)
    (hst : starEach (e :: es) X.env = (false, eval e X.env) :: starEach es X.env := by rfl) (hpl : (backTo pos (starEach es X.env)).any (·.1) = false := by rfl)
    (ht : eval (.Call (.Attribute o m apos) (e :: es) [] pos) X.env = (do
      let ov ← eval o X.env
      standAt apos.atName
      let (f, first) ← holding [ov] (getMethod ov m pl)
      callWith pos f first (backTo pos (starEach (e :: es) X.env)) (backToKw pos (keywordEach [] X.env))) := by rfl) :
    PE X (.Call (.Attribute o m apos) (e :: es) [] pos) (fun σ H Q => ta σ H fun x H1 => x = .ref C ∧ t σ H1 fun vs H2 => sp vs H2 Q E) := by
  refine ⟨fun pins s σ H Q I h => ?_⟩
  refine PySem.W.methodCall_KW (pl := pl) (thn (he.run pins s σ H _ I h) fun u s1 ⟨x, H1, I1, rx, ex, q⟩ => ?_) ht
  subst ex
  obtain rfl : u = Value.ref C := rx
  obtain ⟨p, h1, ⟨rest, h2⟩, h3⟩ := c
  refine PySem.W.method_cls I1.kIn r.ga ?_
  refine PySem.W.cls_bind I1.kIn r.rd h1 ?_
  refine wpAny_call (PySem.W.sm_get (s := { s1 with toks := s1.toks + 1 }) I1.kIn h2 (PySem.W.handed_on rfl ?_))
  have I2 : L2.Inv X pins σ H1 { s1 with toks := s1.toks + 1 } := I1.tok _
  refine PySem.W.callWith_K (h₀ := X.base) I2.ok.mod.kin h3 (thn (ha.run pos pins _ σ H1 _ I2 q) fun us s3 ⟨vs, H2, I3, r3, q3⟩ => ⟨I3.kIn, ?_⟩) hst hpl
  exact run_fn (us := us) (vs := vs) (dvs := []) F hr hb .nil hx I3 r3 (show sp (vs ++ []) H2 Q E by rw [List.append_nil]; exact q3)
end
section
variable {X : Cx}
theorem sw_trueD {kx vx : Expr} {gs : List Comprehension} {scope : Scope} {pos py : Pos} {y : Str} {l : Nat} {env : Env} (hk : env.scope.kind = .function) (hy : env.scope.names.lookup y = some .local) (hl : (py.line == pos.line) = true)
    (ha : (scope.names.any fun (n, k) => n == y && (k == .local || k == .cell)) = false) : swapsWith (.DictComp kx vx gs scope pos) (some (.Name y py)) l env = pure true := by
  have ky : env.kindOf y = some .local := hy
  have hb : env.blockKind = .function := by unfold Env.blockKind; rw [hk]; rfl
  unfold swapsWith
  simp only [hb, ky, ha, Expr.pos, hl]
  rfl
/-- name = {..} on one line, the name a local -/
theorem ps_setDc {i : Nat} {y : Str} {py : Pos} {kx vx tg iter : Expr} {ifs : List Expr} {scope : Scope} {own : List (Str × Nat)} {pos spos : Pos} {wi : TI} {g : TG} {tt : TT} {tk tv : TE} (hc : X.calm = true) (hN : X.N.Nodup) (hy : X.N[i]? = some y) (hyl : X.env.scope.names.lookup y = some .local)
    (hsw : swapsWith (.DictComp kx vx [⟨tg, iter, ifs, 0⟩] scope pos) (some (.Name y py)) spos.line X.env = pure true) (hi : PI X tg iter wi) (ok : BlkOk X.N X.env.scope scope own)
    (hg : ∀ (s : Shared) (H : Hp) (C : Addr) (cl : List (Str × Addr)) (fp : List Addr), PG (X.blk s H scope (compEnvC scope cl C X.env) fp) tg g) (ht : ∀ (s : Shared) (H : Hp) (C : Addr) (cl : List (Str × Addr)) (fp : List Addr), PTs (X.blk s H scope (compEnvC scope cl C X.env) fp) ifs tt)
    (hk : ∀ (s : Shared) (H : Hp) (C : Addr) (cl : List (Str × Addr)) (fp : List Addr), PE (X.blk s H scope (compEnvC scope cl C X.env) fp) kx tk)
    (he : ∀ (s : Shared) (H : Hp) (C : Addr) (cl : List (Str × Addr)) (fp : List Addr), PE (X.blk s H scope (compEnvC scope cl C X.env) fp) vx tv) (hs : ∀ x, foldedSetIterable iter X.env x = pure x := by intro _; rfl) :
    PS X (.Assign [.Name y py] (.DictComp kx vx [⟨tg, iter, ifs, 0⟩] scope pos) spos) (tAsg (tDc wi g tt tk tv (own.map (·.2))) (gName i)) := by
  refine ⟨fun pins s σ H D I h => ?_⟩
  rw [exec_Assign_Name_used _ _ _ _ hsw]
  refine wpAny_bind (wpAny_standAt (wpAny_bind ?_))
  show wpAny _ X.A (do let _ ← comprehension (.DictComp kx vx [⟨tg, iter, ifs, 0⟩] scope pos) scope X.env (firstIterPos [⟨tg, iter, ifs, 0⟩] pos) newDict false (eval iter X.env) (some (assign (.Name y py) X.env))) _ _ s
  have h : tDc wi g tt tk tv (own.map (·.2)) σ H (fun x H1 => gName i x σ H1 D.nx) := h
  refine wpAny_bind (thn (dc_core (Qf := fun _ s' => SP X pins D .next s') hc hN I hi ok hg ht hk he hs h fun L C s' m H' I' q hn f => ?_) fun _ s' hq => wpAny_pure (wpAny_pure hq))
  show wpAny _ _ (assign (.Name y py) X.env (.ref L)) _ _ _
  refine wpAny_assign_Name (store_ok2 (v := V.ref L) I' hN hy (.inl hyl) rfl (fun s2 I2 ⟨a, sb, ha⟩ => ?_) (.inr hyl))
  obtain ⟨f0, f1, f2, f3, f4, f5⟩ := f
  have haC : C ≠ a := by
    rcases ha with z | z
    · rw [z]; exact f1
    · exact fun e => f4 y a z e.symm
  refine ⟨m, hn.sameBut sb haC, fun h3 sb3 => ?_⟩
  exact ⟨_, H', I2.turned (t' := s2.toks) (fun b o hb e => (sb3.2 b hb).trans e) f0 f1 f3 f4 f5, q⟩
end
section
variable {X : Cx} {CX : CXT} {k : Nat} {f : Addr} {sp : Sp} {E : XK} {x : Str} {p pos sp_ : Pos} {e : Expr} {te : TE}
theorem pe_callS1K (K : PySem.W.Frag) (F : FnR X.prog X.w X.K X.mg X.base CX k f sp) (hr : Room k X.A) (hk : PySem.W.keepIn X.K (.ref f) = true) (hg : Gl X x) (hm : X.mg x = some (.ref f)) (hx : Passes CX X E) (he : PE X e te) (hd : (x == ("__debug__" : Str)) = false := by decide)
    (hst : starEach [.Starred e sp_] X.env = [(true, eval e X.env)] := by rfl) (hK : X.K = K := by rfl) :
    PE X (.Call (.Name x p) [.Starred e sp_] [] pos) (fun σ H Q => te σ H fun y H1 => ∃ a xs, y = V.ref a ∧ (SqT K H1 a xs ∨ SqL K H1 a xs) ∧ sp xs H1 Q E) := hK ▸ StX.pe_callS1 F hr hk hg hm hx he hd hst
end
end XL
set_option Elab.async false
set_option linter.all false
set_option maxRecDepth 100000
set_option maxHeartbeats 4000000
/-! XKeyD: dicts whose keys are nested tuples of ints, truths and texts. -/
namespace XL
open PySem PySem.Spec PySem.SeqAt PyProof.Rows L2
/-! ### keys as data -/
noncomputable instance decPD : DecidableEq PyData := fun _ _ => Classical.propDecidable _
mutual
def keyD : PyData → Bool
  | .bool _ => true
  | .int _ => true
  | .str x => PyData.canLay0 (.str x)
  | .tuple xs => keyDs xs
  | _ => false
def keyDs : List PyData → Bool
  | [] => true
  | d :: ds => keyD d && keyDs ds
end
mutual
/-- what Python compares: True is 1 -/
def nrm : PyData → PyData
  | .bool b => .int (if b then 1 else 0)
  | .tuple xs => .tuple (nrms xs)
  | d => d
def nrms : List PyData → List PyData
  | [] => []
  | d :: ds => nrm d :: nrms ds
end
mutual
def hashD (w : World) : PyData → Int
  | .int i => hashInt i
  | .str x => hashStr w x
  | .tuple xs => reduceHash (Builtin.Tuple.tupleHashOf (hashDs w xs))
  | _ => 0
def hashDs (w : World) : List PyData → List Int
  | [] => []
  | d :: ds => hashD w d :: hashDs w ds
end
mutual
def drawD : PyData → Nat
  | .tuple xs => drawDs xs + 1
  | _ => 1
def drawDs : List PyData → Nat
  | [] => 0
  | d :: ds => drawD d + drawDs ds
end
mutual
theorem keyD_lay : ∀ d : PyData, keyD d = true → d.canLay0 = true
  | .bool _, _ => rfl
  | .int _, _ => rfl
  | .str _, h => h
  | .tuple xs, h => by
    simp only [PyData.canLay0]
    exact keyDs_lay xs h
  | .none, h => nomatch h
  | .list _, h => nomatch h
  | .dict _, h => nomatch h
theorem keyDs_lay : ∀ ds : List PyData, keyDs ds = true → PyData.canLayAll0 ds = true
  | [], _ => rfl
  | d :: ds, h => by
    have h2 : (keyD d && keyDs ds) = true := h
    rw [Bool.and_eq_true] at h2
    simp only [PyData.canLayAll0, Bool.and_eq_true]
    exact ⟨keyD_lay d h2.1, keyDs_lay ds h2.2⟩
end
theorem beq_dec {α : Type} [BEq α] [LawfulBEq α] (a b : α) [Decidable (a = b)] : (a == b) = decide (a = b) := by
  by_cases h : a = b
  · rw [decide_eq_true h, beq_iff_eq.mpr h]
  · rw [decide_eq_false h]
    exact beq_eq_false_iff_ne.mpr h
mutual
theorem eqv_nrm : ∀ d e : PyData, keyD d = true → keyD e = true → PyData.eqv d e = decide (nrm d = nrm e)
  | .bool a, e, _, he => by
    cases e with
    | bool b => cases a <;> cases b <;> simp [PyData.eqv, nrm]
    | int i => cases a <;> simp [PyData.eqv, nrm, beq_dec, eq_comm]
    | str _ => simp [PyData.eqv, nrm]
    | tuple _ => simp [PyData.eqv, nrm]
    | _ => exact nomatch he
  | .int a, e, _, he => by
    cases e with
    | bool b => cases b <;> simp [PyData.eqv, nrm, beq_dec]
    | int i => simp [PyData.eqv, nrm, beq_dec]
    | str _ => simp [PyData.eqv, nrm]
    | tuple _ => simp [PyData.eqv, nrm]
    | _ => exact nomatch he
  | .str a, e, _, he => by
    cases e with
    | bool b => simp [PyData.eqv, nrm]
    | int i => simp [PyData.eqv, nrm]
    | str _ => simp [PyData.eqv, nrm, beq_dec]
    | tuple _ => simp [PyData.eqv, nrm]
    | _ => exact nomatch he
  | .tuple xs, e, hd, he => by
    cases e with
    | bool b => simp [PyData.eqv, nrm]
    | int i => simp [PyData.eqv, nrm]
    | str _ => simp [PyData.eqv, nrm]
    | tuple ys =>
      have := eqvs_nrm xs ys hd he
      simp only [PyData.eqv, nrm, PyData.tuple.injEq]
      exact this
    | _ => exact nomatch he
  | .none, _, h, _ => nomatch h
  | .list _, _, h, _ => nomatch h
  | .dict _, _, h, _ => nomatch h
theorem eqvs_nrm : ∀ ds es : List PyData, keyDs ds = true → keyDs es = true → PyData.eqvAll ds es = decide (nrms ds = nrms es)
  | [], [], _, _ => by simp [PyData.eqvAll, nrms]
  | [], _ :: _, _, _ => by simp [PyData.eqvAll, nrms]
  | _ :: _, [], _, _ => by simp [PyData.eqvAll, nrms]
  | d :: ds, e :: es, h, k => by
    have h2 : (keyD d && keyDs ds) = true := h
    have k2 : (keyD e && keyDs es) = true := k
    rw [Bool.and_eq_true] at h2 k2
    simp only [PyData.eqvAll, nrms, List.cons.injEq]
    rw [eqv_nrm d e h2.1 k2.1, eqvs_nrm ds es h2.2 k2.2, Bool.decide_and]
end
/-! ### its hash -/
theorem hashDs_app (w : World) : ∀ a b : List PyData, hashDs w (a ++ b) = hashDs w a ++ hashDs w b
  | [], _ => rfl
  | d :: ds, b => by
    show hashD w d :: hashDs w (ds ++ b) = hashD w d :: (hashDs w ds ++ hashDs w b)
    rw [hashDs_app w ds b]
theorem drawDs_app : ∀ a b : List PyData, drawDs (a ++ b) = drawDs a + drawDs b
  | [], b => by show drawDs b = 0 + drawDs b; omega
  | d :: ds, b => by
    show drawD d + drawDs (ds ++ b) = drawD d + drawDs ds + drawDs b
    rw [drawDs_app ds b]
    omega
theorem nrms_app : ∀ a b : List PyData, nrms (a ++ b) = nrms a ++ nrms b
  | [], _ => rfl
  | d :: ds, b => by
    show nrm d :: nrms (ds ++ b) = nrm d :: (nrms ds ++ nrms b)
    rw [nrms_app ds b]
theorem keyDs_all : ∀ {ds : List PyData}, keyDs ds = true → ∀ d ∈ ds, keyD d = true
  | d :: ds, h, e, he => by
    have h2 : (keyD d && keyDs ds) = true := h
    rw [Bool.and_eq_true] at h2
    rcases List.mem_cons.mp he with rfl | he
    · exact h2.1
    · exact keyDs_all h2.2 e he
section
variable {prog : Program} {w : World}
theorem hash_bool {A : Around} {E : Value → Shared → Prop} {s : Shared} {b : Bool} {Q : Int → Shared → Prop} (h : Q (hashInt (if b then 1 else 0)) { s with toks := s.toks + 1 }) : wpAny (model prog w) A (pyHash (.bool b)) Q E s := by
  have hr := rawHash_range (if b then 1 else 0)
  unfold pyHash
  have hv : [Value.bool b].any Value.onHeap = false := rfl
  refine wpAny_bind ?_
  rw [cRoomFor, if_neg (by rw [hv]; exact Bool.false_ne_true)]
  refine wpAny_pure ?_
  refine wpAny_bind (wpAny_specialOf (PySem.typeIs_bool s b) F.slot_bool_hash.lookup ?_)
  show wpAny _ _ (if (some (Value.builtin "int.__hash__") == some Value.none) = true then _ else _) Q E s
  rw [if_neg (by rw [beq_builtin_none]; exact Bool.false_ne_true)]
  refine wpAny_bind (wpAny_specialOf (PySem.typeIs_bool s b) F.slot_bool_hash.lookup ?_)
  show wpAny _ _ (callSpecialIfBoundUnlessNone? (.bool b) "__hash__" _ >>= _) Q E s
  refine wpAny_bind (wpAny_callSpecialIfBoundUnlessNone?_slot (PySem.typeIs_bool s b) F.slot_bool_hash
    (wpAny_call_entry F.slot_bool_hash (PySem.typeIs_bool s b) entry_int_hash
      (show wpAny _ _ (do ret (← mkInt (rawHash (if b then 1 else 0)))) _ _ s from wpAny_ret_mkInt ?_) (args_int_hash _)))
  show wpAny _ _ (if (decide (-(2 : Int) ^ 63 ≤ rawHash (if b then 1 else 0)) && decide (rawHash (if b then 1 else 0) < 2 ^ 63)) = true then _ else _) Q E _
  rw [if_pos (by rw [decide_eq_true hr.1, decide_eq_true hr.2]; rfl)]
  exact wpAny_pure h
def HashAt (prog : Program) (w : World) (d : PyData) : Prop := ∀ (A : Around) (E : Value → Shared → Prop) (s : Shared) (v : Value) (as : List Addr) (Q : Int → Shared → Prop), keyD d = true → Reads s.heap v d as → A.units + d.depth < cLine →
  Q (hashD w (nrm d)) { s with toks := s.toks + drawD (nrm d) } → wpAny (model prog w) A (pyHash v) Q E s
theorem depth_in {d : PyData} : ∀ {ds : List PyData}, d ∈ ds → d.depth ≤ PyData.depthAll ds
  | e :: ds, h => by
    simp only [PyData.depthAll]
    rcases List.mem_cons.mp h with rfl | h
    · exact Nat.le_max_left _ _
    · exact Nat.le_trans (depth_in h) (Nat.le_max_right _ _)
theorem hash_tup {xs : List PyData} (ih : ∀ d ∈ xs, HashAt prog w d) : HashAt prog w (.tuple xs) := by
  intro A E s v as Q hk r hu h
  have hk : keyDs xs = true := hk
  have hdp : (PyData.tuple xs).depth = PyData.depthAll xs + 1 := by simp only [PyData.depth]
  cases r with
  | @tuple a o items n _ as ho hc hd hi =>
    have hT : s.TypeIs (.ref a) "tuple" := ⟨o, ho, hc⟩
    have hu0 : A.units < cLine := by omega
    unfold pyHash
    first | unfold pyHashByItsType | skip
    first | refine wpAny_bind (wpAny_cRoomFor_or (.inr hu0) ?_) | skip
    refine wpAny_bind (wpAny_specialOf hT F.slot_tuple_hash.lookup ?_)
    show wpAny _ _ (if (some (Value.builtin "tuple.__hash__") == some Value.none) = true then _ else _) Q E s
    rw [if_neg (by rw [beq_builtin_none]; exact Bool.false_ne_true)]
    refine wpAny_bind (wpAny_specialOf hT F.slot_tuple_hash.lookup ?_)
    show wpAny _ _ (callSpecialIfBoundUnlessNone? (.ref a) "__hash__" _ >>= _) Q E s
    refine wpAny_bind (wpAny_callSpecialIfBoundUnlessNone?_slot hT F.slot_tuple_hash (wpAny_call_entry F.slot_tuple_hash hT F.entry_tuple_hash ?_ (F.args_tuple_hash_1 _)))
    show wpAny _ _ (Builtin.Tuple.tupleItemsOf (.ref a) >>= _) _ _ s
    refine wpAny_bind (wpAny_tupleItemsOf ho hd ?_)
    refine wpAny_bind ?_
    rw [← Array.forIn_toList]
    refine wpAny_forIn_list _
      (fun rest (b : Array Int) s' => ∃ done left bs, xs = done ++ left ∧ ReadsAll s.heap rest left bs ∧ b.toList = hashDs w (nrms done) ∧ s' = { s with toks := s.toks + drawDs (nrms done) })
      _ ?_ ?_ _ _ ⟨[], xs, as, rfl, hi, rfl, rfl⟩
    · rintro x rest b s' ⟨done, left, bs, e, hl, hb, rfl⟩
      cases hl with
      | @cons _ _ d ds _ _ h1 hl' =>
        have hm : d ∈ xs := by rw [e]; simp
        refine wpAny_bind (ih d hm A.in1 _ _ x _ _ (keyDs_all hk d hm) h1 (by have := depth_in hm; have : A.in1.units = A.units + 1 := rfl; omega) ?_)
        have fin : ∃ done' left' bs', xs = done' ++ left' ∧ ReadsAll s.heap rest left' bs' ∧ (b.push (hashD w (nrm d))).toList = hashDs w (nrms done') ∧ ({ s with toks := s.toks + drawDs (nrms done) + drawD (nrm d) } : Shared) = { s with toks := s.toks + drawDs (nrms done') } := by
          refine ⟨done ++ [d], ds, _, by rw [e]; simp, hl', ?_, ?_⟩
          · rw [nrms_app, hashDs_app, Array.toList_push, hb]
            rfl
          · rw [nrms_app, drawDs_app]
            show ({ s with toks := _ } : Shared) = { s with toks := s.toks + (drawDs (nrms done) + (drawD (nrm d) + 0)) }
            rw [Nat.add_zero, Nat.add_assoc]
        first
          | exact wpAny_pure fin
          | exact wpAny_bind (wpAny_pure (wpAny_pure fin))
    · rintro b s' ⟨done, left, bs, e, hl, hb, rfl⟩
      cases hl
      rw [List.append_nil] at e
      subst e
      have h : Q (reduceHash (Builtin.Tuple.tupleHashOf (hashDs w (nrms xs)))) { s with toks := s.toks + (drawDs (nrms xs) + 1) } := h
      show wpAny _ _ (retInt (Builtin.Tuple.tupleHashOf b.toList)) _ _ _
      rw [hb]
      refine wpAny_ret_mkInt ?_
      show wpAny _ _ (if (decide (-(2 : Int) ^ 63 ≤ Builtin.Tuple.tupleHashOf (hashDs w (nrms xs))) && decide (Builtin.Tuple.tupleHashOf (hashDs w (nrms xs)) < 2 ^ 63)) = true then _ else _) Q E _
      unfold reduceHash at h
      by_cases hr : (decide (-(2 : Int) ^ 63 ≤ Builtin.Tuple.tupleHashOf (hashDs w (nrms xs))) && decide (Builtin.Tuple.tupleHashOf (hashDs w (nrms xs)) < 2 ^ 63)) = true
      · rw [if_pos hr]
        rw [if_pos hr] at h
        exact wpAny_pure (by simpa [Nat.add_assoc] using h)
      · rw [if_neg hr]
        rw [if_neg hr] at h
        exact wpAny_bind (wpAny_rule (wpAny_pure (by simpa [Nat.add_assoc] using h)))
mutual
theorem hash_reads : ∀ d : PyData, HashAt prog w d
  | .bool b => fun A E s v as Q _ r _ h => by
    cases r
    exact hash_bool h
  | .int i => fun A E s v as Q _ r _ h => by
    cases r
    exact wpAny_pyHash_int h
  | .str x => fun A E s v as Q _ r _ h => by
    cases r
    exact wpAny_pyHash_str h
  | .tuple xs => hash_tup (hash_all xs)
  | .none => fun _ _ _ _ _ _ h => nomatch h
  | .list _ => fun _ _ _ _ _ _ h => nomatch h
  | .dict _ => fun _ _ _ _ _ _ h => nomatch h
theorem hash_all : ∀ ds : List PyData, ∀ d ∈ ds, HashAt prog w d
  | [], _, h => nomatch h
  | e :: ds, d, h => by
    by_cases e2 : d = e
    · rw [e2]
      exact hash_reads e
    · exact hash_all ds d ((List.mem_cons.mp h).resolve_left e2)
end
/-! ### its equality is quiet -/
def QuietAt (prog : Program) (w : World) (d : PyData) : Prop := ∀ (n : Nat) (A : Around) (E : Value → Shared → Prop) (s : Shared) (v : Value) (as : List Addr) (Q : Bool → Shared → Prop), keyD d = true → Reads s.heap v d as → d.depth ≤ n →
  Q true s → wpAny (model prog w) A (eqIsQuiet n v) Q E s
theorem quiet_tup {xs : List PyData} (ih : ∀ d ∈ xs, QuietAt prog w d) : QuietAt prog w (.tuple xs) := by
  intro n A E s v as Q hk r hu h
  have hk : keyDs xs = true := hk
  have hdp : (PyData.tuple xs).depth = PyData.depthAll xs + 1 := by simp only [PyData.depth]
  obtain ⟨n, rfl⟩ : ∃ m, n = m + 1 := ⟨n - 1, by omega⟩
  cases r with
  | @tuple a o items m _ as ho hc hd hi =>
    have hT : s.TypeIs (.ref a) "tuple" := ⟨o, ho, hc⟩
    unfold eqIsQuiet
    refine wpAny_bind (wpAny_specialOf hT F.slot_tuple_eq.lookup ?_)
    show wpAny _ _ (isInstance (.ref a) (.type "tuple") >>= _) _ _ s
    refine wpAny_bind (wpAny_isInstance hT isSubtype_tuple_tuple ?_)
    simp only [Bool.not_true, Bool.false_eq_true, if_false]
    refine wpAny_bind (wpAny_seqItems ho hd ?_)
    refine wpAny_bind ?_
    show wpAny _ _ (forIn items _ _) _ _ s
    rw [← Array.forIn_toList]
    refine wpAny_forIn_list _ (fun rest r s' => r.1 = none ∧ s' = s ∧ ∃ left bs, (∀ d ∈ left, d ∈ xs) ∧ ReadsAll s.heap rest left bs) _ ?_ ?_ _ _ ⟨rfl, rfl, xs, as, fun _ h => h, hi⟩
    · rintro v rest r s' ⟨hr, rfl, left, bs, hin, hl⟩
      cases hl with
      | @cons _ _ d ds _ _ h1 hl' =>
        have hm := hin d List.mem_cons_self
        refine wpAny_bind (ih d hm n A _ _ v _ _ (keyDs_all hk d hm) h1 (by have := depth_in hm; omega) ?_)
        simp only [Bool.not_true, Bool.false_eq_true, if_false]
        exact wpAny_pure ⟨rfl, rfl, ds, _, fun e he => hin e (List.mem_cons_of_mem _ he), hl'⟩
    · rintro ⟨r1, r2⟩ s' ⟨hr, rfl, _⟩
      simp only at hr
      subst hr
      exact wpAny_pure h
mutual
theorem quiet_reads : ∀ d : PyData, QuietAt prog w d
  | .bool b => fun n A E s v as Q _ r _ h => by
    cases r
    rw [eqIsQuiet_byValue _ rfl]
    exact wpAny_pure h
  | .int i => fun n A E s v as Q _ r _ h => by
    cases r
    rw [eqIsQuiet_byValue _ rfl]
    exact wpAny_pure h
  | .str x => fun n A E s v as Q _ r _ h => by
    cases r
    rw [eqIsQuiet_byValue _ rfl]
    exact wpAny_pure h
  | .tuple xs => quiet_tup (quiet_all xs)
  | .none => fun _ _ _ _ _ _ _ h => nomatch h
  | .list _ => fun _ _ _ _ _ _ _ h => nomatch h
  | .dict _ => fun _ _ _ _ _ _ _ h => nomatch h
theorem quiet_all : ∀ ds : List PyData, ∀ d ∈ ds, QuietAt prog w d
  | [], _, h => nomatch h
  | e :: ds, d, h => by
    by_cases e2 : d = e
    · rw [e2]
      exact quiet_reads e
    · exact quiet_all ds d ((List.mem_cons.mp h).resolve_left e2)
end
/-! ### the kind -/
mutual
theorem reads_same {h h' : Heap} {d : Addr} {o : Obj} {es ep} (ho : h.get? d = some o) (hd : o.data = .dict es ep) (hs : Heap.SameBut d h h') : ∀ (x : PyData) (v : Value) (as : List Addr), keyD x = true → Reads h v x as → Reads h' v x as
  | .bool b, _, _, _, r => by cases r; exact .bool b
  | .int i, _, _, _, r => by cases r; exact .int i _
  | .str x, _, _, _, r => by cases r; exact .str x _
  | .tuple xs, _, _, hk, r => by
    cases r with
    | @tuple a o' items m _ as h1 h2 h3 h4 =>
      have hne : a ≠ d := by
        rintro rfl
        obtain rfl : o' = o := Option.some.inj (h1.symm.trans ho)
        rw [hd] at h3
        exact nomatch h3
      exact .tuple ((hs.2 a hne).trans h1) h2 h3 (readsAll_same ho hd hs xs _ _ hk h4)
  | .none, _, _, h, _ => nomatch h
  | .list _, _, _, h, _ => nomatch h
  | .dict _, _, _, h, _ => nomatch h
theorem readsAll_same {h h' : Heap} {d : Addr} {o : Obj} {es ep} (ho : h.get? d = some o) (hd : o.data = .dict es ep) (hs : Heap.SameBut d h h') : ∀ (xs : List PyData) (vs : List Value) (as : List Addr), keyDs xs = true → ReadsAll h vs xs as → ReadsAll h' vs xs as
  | [], _, _, _, r => by cases r; exact .nil
  | x :: xs, _, _, hk, r => by
    have h2 : (keyD x && keyDs xs) = true := hk
    rw [Bool.and_eq_true] at h2
    cases r with
    | cons r1 r2 => exact .cons (reads_same ho hd hs x _ _ h2.1 r1) (readsAll_same ho hd hs xs _ _ h2.2 r2)
end
def dataKind (prog : Program) (w : World) : HeapKind prog w PyData where
  is := fun h k a => ∃ d as, Reads h (.ref a) d as ∧ keyD d = true ∧ d.depth ≤ 8 ∧ nrm d = k
  hash := hashD w
  draws := drawD
  room := fun A => A.units + 8 < cLine
  inj := fun ⟨d, as, h1, h2, _, h3⟩ ⟨e, bs, k1, _, _, k3⟩ => by
    have := Reads.unique d e _ _ _ (keyD_lay d h2) h1 k1
    rw [← h3, ← k3, this]
  keeps := fun ⟨d, as, h1, h2, h3, h4⟩ ho hd hs => ⟨d, as, reads_same ho hd hs d _ _ h2 h1, h2, h3, h4⟩
  pyHash := fun hu ⟨d, as, h1, h2, h3, h4⟩ h => by
    subst h4
    exact hash_reads d _ _ _ _ _ _ h2 h1 (by omega) h
  eqBool := fun {A E s x y a b Q} hu ⟨d, as, h1, h2, h3, h4⟩ ⟨e, bs, k1, k2, k3, k4⟩ h => by
    subst h4
    subst k4
    refine eqAt_reads d e A s _ _ _ _ h1 k1 (keyD_lay d h2) (keyD_lay e k2) (by have := Nat.min_le_left d.depth e.depth; omega) prog w E Q ?_
    rw [eqv_nrm d e h2 k2]
    exact h
  quiet := fun ⟨d, as, h1, h2, h3, _⟩ h => quiet_reads d _ _ _ _ _ _ _ h2 h1 h3 h
end
/-! ### the dict -/
/-- b holds the key k -/
def KeyV (K : PySem.W.Frag) (H : Hp) (b : Addr) (k : PyData) : Prop := ∃ d, Dp K H (.ref b) d ∧ keyD d = true ∧ d.depth ≤ 8 ∧ nrm d = k
theorem KeyV.same {K : PySem.W.Frag} {H H' : Hp} {b : Addr} {k : PyData} (e : Same H H') (h : KeyV K H b k) : KeyV K H' b k := let ⟨d, h1, h2⟩ := h; ⟨d, dp_same e h1, h2⟩
def rowD (w : World) (x : PyData × Addr × Value) : DictEntry := ⟨hashD w x.1, .ref x.2.1, x.2.2⟩
/-- the dict's one object -/
def dO (a : Addr) (es : Array DictEntry) (ep : Nat) : HO := .ext fun h => ∃ o, h.get? a = some o ∧ o.ExactDict ∧ o.data = .dict es ep
abbrev KD (K : PySem.W.Frag) (H : Hp) : List (PyData × V) → List (PyData × Addr × Value) → Prop := Paired fun p q => p.1 = q.1 ∧ KeyV K H q.2.1 p.1 ∧ RelV p.2 q.2.2
/-- the cell o at a is a dict with these rows -/
def DD (K : PySem.W.Frag) (w : World) (H : Hp) (a : Addr) (o : HO) (kvs : List (PyData × V)) : Prop := kvs.length ≤ sizeLine ∧ (a == sysModules) = false ∧ ∃ es ep xs, o = dO a es ep ∧ es.toList = xs.map (rowD w) ∧ (xs.map (·.1)).Nodup ∧ KD K H kvs xs
theorem KD.keeps {K : PySem.W.Frag} {H H' : Hp} {kvs : List (PyData × V)} {xs : List (PyData × Addr × Value)} (e : Same H H') (r : KD K H kvs xs) : KD K H' kvs xs := Paired.mapP r fun _ _ z => ⟨z.1, z.2.1.same e, z.2.2⟩
theorem DD.same {K : PySem.W.Frag} {w : World} {H H' : Hp} {a : Addr} {o : HO} {kvs : List (PyData × V)} (e : Same H H') (h : DD K w H a o kvs) : DD K w H' a o kvs := by
  obtain ⟨h1, h2, es, ep, xs, h3, h4, h5, h6⟩ := h
  exact ⟨h1, h2, es, ep, xs, h3, h4, h5, h6.keeps e⟩
theorem KD.val {K : PySem.W.Frag} {H : Hp} {kvs : List (PyData × V)} {xs : List (PyData × Addr × Value)} (r : KD K H kvs xs) (k : PyData) : RelO (valV kvs k) ((atKey xs k).map (·.2)) := by
  induction r with
  | nil => exact True.intro
  | @cons p q ps qs h t ih =>
    obtain ⟨h1, _, h2⟩ := h
    by_cases e : p.1 = k
    · have e' : q.1 = k := h1.symm.trans e
      have b : atKey (q :: qs) k = some q.2 := by simp [atKey, List.find?_cons, e']
      rw [valV_pos e, b]; exact h2
    · have e' : ¬ q.1 = k := fun z => e (h1.trans z)
      have b : atKey (q :: qs) k = atKey qs k := by simp [atKey, List.find?_cons, e']
      rw [valV_neg e, b]; exact ih
theorem KD.repl {K : PySem.W.Frag} {H : Hp} {kvs : List (PyData × V)} {xs : List (PyData × Addr × Value)} (r : KD K H kvs xs) (k : PyData) {y : V} {u : Value} (ry : RelV y u) :
    KD K H (kvs.map fun kv => if kv.1 = k then (kv.1, y) else kv) (xs.map (putAt k u)) := by
  induction r with
  | nil => exact .nil
  | @cons p q ps qs h t ih =>
    rw [List.map_cons, List.map_cons]
    refine .cons ?_ ih
    obtain ⟨h1, h2, h3⟩ := h
    unfold putAt
    by_cases e : p.1 = k
    · rw [if_pos e, if_pos (h1.symm.trans e)]; exact ⟨h1, h2, ry⟩
    · rw [if_neg e, if_neg (fun z => e (h1.trans z))]; exact ⟨h1, h2, h3⟩
theorem KD.put {K : PySem.W.Frag} {H : Hp} {kvs : List (PyData × V)} {xs : List (PyData × Addr × Value)} (r : KD K H kvs xs) (k : PyData) {b : Addr} {y : V} {u : Value} (hb : KeyV K H b k) (ry : RelV y u) :
    KD K H (putK kvs k y) (storedH xs k b u) := by
  have e : (kvs.any fun kv => decide (kv.1 = k)) = (atKey xs k).isSome := by
    rw [valV_any, (r.val k).isSome_eq, Option.isSome_map]
  unfold putK storedH
  rw [e]
  by_cases q : (atKey xs k).isSome = true
  · rw [if_pos q, if_pos q]; exact r.repl k ry
  · rw [if_neg q, if_neg q]; exact Paired.snoc r ⟨rfl, hb, ry⟩
section
variable {X : Cx} {pins : List (Addr × Obj)} {σ : L2.St} {H : Hp} {s : Shared} {a b : Addr} {o : HO} {k : PyData} {kvs : List (PyData × V)} {A : Around} {E : Value → Shared → Prop}
theorem keyV_is (I : Inv X pins σ H s) (h : KeyV X.K H b k) : (dataKind X.prog X.w).is s.heap k b := by
  obtain ⟨d, hd, h1, h2, h3⟩ := h
  obtain ⟨as, r⟩ := Dp.reads I d (.ref b) (.ref b) hd rfl
  exact ⟨d, as, r, h1, h2, h3⟩
theorem kd_all (I : Inv X pins σ H s) {xs : List (PyData × Addr × Value)} (r : KD X.K H kvs xs) : ∀ x ∈ xs, (dataKind X.prog X.w).is s.heap x.1 x.2.1 := by
  induction r with
  | nil => intro x hx; exact nomatch hx
  | @cons p q ps qs hq t ih =>
    intro x hx
    rcases List.mem_cons.mp hx with e | hx
    · subst e
      rw [← hq.1]
      exact keyV_is I hq.2.1
    · exact ih x hx
theorem dd_of (I : Inv X pins σ H s) (e : H a = some o) (h : DD X.K X.w H a o kvs) : kvs.length ≤ sizeLine ∧ (a == sysModules) = false ∧ ∃ xs, KD X.K H kvs xs ∧ s.heap.DictOfH (dataKind X.prog X.w) a xs := by
  obtain ⟨h1, h2, es, ep, xs, rfl, h4, h5, h6⟩ := h
  obtain ⟨⟨ob, k1, k2, k3⟩, _⟩ := I.hok a _ e
  exact ⟨h1, h2, xs, h6, ob, es, ep, k1, k2, k3, h4, kd_all I h6, h5⟩
theorem dd_getItem {v : V} {Q : Value → Shared → Prop} (hu : A.units + 9 < cLine) (I : Inv X pins σ H s) (e : H a = some o) (h : DD X.K X.w H a o kvs) (hb : KeyV X.K H b k) (l : valV kvs k = some v) (q : ∀ w' s', Inv X pins σ H s' → RelV v w' → Q w' s') :
    wpAny (model X.prog X.w) A (getItem (.ref a) (.ref b)) Q E s := by
  obtain ⟨z, hd, xs, rel, dd⟩ := dd_of I e h
  obtain ⟨w', hw, rw'⟩ := RelO.some_of (v := v) (o := (atKey xs k).map (·.2)) (by rw [← l]; exact rel.val k)
  obtain ⟨p, hp, hp2⟩ := Option.map_eq_some_iff.mp hw
  refine wpAny_getItem_heap (show A.in1.units + 8 < cLine from by have : A.in1.units = A.units + 1 := rfl; omega) (keyV_is I hb) dd hp ?_
  rw [hp2]
  exact q w' _ (I.tok _) rw'
theorem dd_in {Q : Value → Shared → Prop} (hu : A.units + 9 < cLine) (I : Inv X pins σ H s) (e : H a = some o) (h : DD X.K X.w H a o kvs) (hb : KeyV X.K H b k) (q : ∀ s', Inv X pins σ H s' → Q (.bool (valV kvs k).isSome) s') :
    wpAny (model X.prog X.w) A (compareOp .In (.ref b) (.ref a)) Q E s := by
  obtain ⟨z, hd, xs, rel, dd⟩ := dd_of I e h
  refine wpAny_in_heap (show A.in1.units + 8 < cLine from by have : A.in1.units = A.units + 1 := rfl; omega) (keyV_is I hb) hd dd ?_
  have r := (rel.val k).isSome_eq
  rw [Option.isSome_map] at r
  rw [← r]
  exact q _ (I.tok _)
theorem dd_notIn {Q : Value → Shared → Prop} (hu : A.units + 9 < cLine) (I : Inv X pins σ H s) (e : H a = some o) (h : DD X.K X.w H a o kvs) (hb : KeyV X.K H b k) (q : ∀ s', Inv X pins σ H s' → Q (.bool (!(valV kvs k).isSome)) s') :
    wpAny (model X.prog X.w) A (compareOp .NotIn (.ref b) (.ref a)) Q E s := by
  obtain ⟨z, hd, xs, rel, dd⟩ := dd_of I e h
  refine wpAny_notIn_heap (show A.in1.units + 8 < cLine from by have : A.in1.units = A.units + 1 := rfl; omega) (keyV_is I hb) hd dd ?_
  have r := (rel.val k).isSome_eq
  rw [Option.isSome_map] at r
  rw [← r]
  exact q _ (I.tok _)
theorem dd_write {h' : Heap} {t' : Nat} {xs : List (PyData × Addr × Value)} (I : Inv X pins σ H s) (e : H a = some (dO a es0 ep0)) (hs : Heap.SameBut a s.heap h') (dd : h'.DictOfH (dataKind X.prog X.w) a xs) :
    ∃ es ep, Inv X pins σ (upd H a (dO a es ep)) { s with heap := h', toks := t' } ∧ es.toList = xs.map (rowD X.w) ∧ (xs.map (·.1)).Nodup := by
  obtain ⟨q, es, ep, hq, h2, h3, h4, _, h5⟩ := dd
  refine ⟨es, ep, d_write I (by rw [e]; exact True.intro) hs ⟨q, hq⟩ ⟨⟨q, hq, h2, h3⟩, ⟨q, hq⟩, fun h1 h2' ⟨o, k1, k2, k3⟩ kk => ⟨o, kk _ k1, k2, k3⟩⟩, h4, h5⟩
theorem dd_setItem {G : Hp} {v : V} {r : Value} {Q : Unit → Shared → Prop} (hu : A.units + 9 < cLine) (I : Inv X pins σ H s) (e : H a = some o) (g : Same G H) (h : DD X.K X.w G a o kvs) (hb : KeyV X.K G b k) (hl : kvs.length < sizeLine) (rv : RelV v r)
    (q : ∀ o' s', DD X.K X.w G a o' (putK kvs k v) → Inv X pins σ (upd H a o') s' → Q () s') : wpAny (model X.prog X.w) A (setItem (.ref a) (.ref b) r) Q E s := by
  obtain ⟨h1, h2, es, ep, ys, rfl, h4, h5, h6⟩ := h
  obtain ⟨⟨ob, k1, k2, k3⟩, _⟩ := I.hok a _ e
  have rel := h6.keeps g
  have dd : s.heap.DictOfH (dataKind X.prog X.w) a ys := ⟨ob, es, ep, k1, k2, k3, h4, kd_all I rel, h5⟩
  have hz : ys.length ≤ sizeLine := by rw [← Paired.length rel]; exact h1
  refine wpAny_setItem_heap (hsz := hz) (show A.in1.units + 8 < cLine from by have : A.in1.units = A.units + 1 := rfl; omega) (keyV_is I (hb.same g)) dd fun h' dd' hs => ?_
  obtain ⟨es', ep', I', e4, e5⟩ := dd_write I e hs dd'
  exact q _ _ ⟨by have := length_putK kvs k v; omega, h2, es', ep', _, rfl, e4, e5, h6.put k hb rv⟩ I'
/-- a new one -/
theorem dd_new {K : PySem.W.Frag} {w : World} (G : Hp) (h : (a == sysModules) = false) : DD K w G a (dO a #[] 0) [] := ⟨Nat.zero_le _, h, #[], 0, [], rfl, rfl, List.nodup_nil, .nil⟩
end
section
variable {X : Cx} {pos : Pos}
/-- {} -/
theorem pe_dnewD (K : PySem.W.Frag) (w : World) (hw : X.w = w := by rfl) : PE X (.Dict [] [] pos) (fun _ H Q => ∀ p o, H p = none → (∀ G, DD K w G p o []) → Q (.ref p) (upd H p o)) := ⟨fun pins s σ H Q I h => by
  have hs : (s.heap.objs.size == sysModules) = false := beq_eq_false_iff_ne.mpr (Ne.symm (Nat.ne_of_lt I.big))
  refine wpAny_Dict_empty ⟨.ref s.heap.objs.size, _, I.laid (a := s.heap.objs.size) (o := dO s.heap.objs.size #[] 0) (t' := s.toks) (fun _ _ q => Heap.get?_push_of_some _ q) (Nat.le_refl _) ?_, rfl, h _ _ (I.hok.fresh (Nat.le_refl _)) fun G => dd_new G hs⟩
  exact ⟨⟨_, Heap.get?_push_size _ rfl, ⟨rfl, rfl, rfl⟩, rfl⟩, ⟨_, Heap.get?_push_size _ rfl⟩, fun h1 h2 ⟨o, k1, k2, k3⟩ kk => ⟨o, kk _ k1, k2, k3⟩⟩⟩
end
/-! ### readings -/
section
variable {prog : Program} {w : World} {A : Around} {E : Value → Shared → Prop} {s : Shared}
theorem dd_lenM {d : Addr} (hd : (d == sysModules) = false) {xs : List (PyData × Addr × Value)} :
    MeetsIn prog w (Builtin.«dict.__len__» ⟨[.ref d], []⟩) (fun _ R s => s.heap.DictOfH (dataKind prog w) d xs ∧ R (.ok (.ret (.int xs.length s.toks))) { s with toks := s.toks + 1 }) :=
  .of_wp fun A R s ⟨hm, h⟩ => by
    obtain ⟨o, es, ep, ho, hc, hdat, he, hk, hn⟩ := hm
    show wpAny _ _ (dictSize d >>= _) _ _ s
    unfold dictSize
    refine wpAny_bind (wpAny_bind (wpAny_dictEntries ho hdat (wpAny_pure ?_)))
    show wpAny _ _ (Builtin.Dict.pendingCount d >>= _) _ _ s
    refine wpAny_bind (wpAny_pendingCount_other hd ?_)
    refine wpAny_ret_mkInt ?_
    have : es.size = xs.length := size_of_entries he
    rw [Nat.add_zero, this]
    exact h
theorem dd_len {d : Addr} {xs : List (PyData × Addr × Value)} {Q : Value → Shared → Prop} (hd : (d == sysModules) = false) (hm : s.heap.DictOfH (dataKind prog w) d xs) (hfit : (xs.length : Int) < 2 ^ 63)
    (h : Q (.int xs.length (s.toks + 1)) { s with toks := s.toks + 1 + 1 }) : wpAny (model prog w) A (call (.builtin "len") [.ref d]) Q E s := by
  refine Calls.call_function_entry kind_len plain_len entry_len (args_len1 _) ?_
  unfold Builtin.«len»
  refine wpAny_bind (m := oneArg "len" _) (wpAny_pure ?_)
  refine wpAny_bind (m := callSpecial? (.ref d) (Str.ofString "__len__")) (wpAny_callSpecial?_slot (name := Str.ofString "__len__") hm.typeIs F.slot_dict_len
    (call_meetsIn F.slot_dict_len hm.typeIs F.entry_dict_len (F.args_dict_len_1 _) (dd_lenM hd) ⟨hm, ?_⟩))
  show wpAny _ _ _ _ _ { s with toks := s.toks + 1 }
  refine wpAny_bind (wpAny_holding (wpAny_pure ?_))
  refine wpAny_bind (wpAny_letGo ?_)
  show wpAny _ _ (if ((xs.length : Nat) : Int) < 0 then _ else _) _ _ _
  rw [if_neg (by omega)]
  show wpAny _ _ (if ((xs.length : Nat) : Int) ≥ 2 ^ 63 then _ else _) _ _ _
  rw [if_neg (by omega)]
  exact wpAny_bind (wpAny_mkInt (wpAny_pure ⟨_, rfl, h⟩))
end
section
variable {X : Cx} {o i e value : Expr} {pos pos' tpos : Pos} {td ty tv : TE}
theorem _root_.L2.Room.u9 {k : Nat} {A : Around} (r : L2.Room k A) : A.units + 9 < cLine := by have := r.un; omega
/-- d[y] -/
def tDDGet (K : PySem.W.Frag) (w : World) (td ty : TE) : TE := fun σ H Q => td σ H fun x H1 => ty σ H1 fun y H2 => ∃ a b o kvs k v, x = V.ref a ∧ y = V.ref b ∧ H2 a = some o ∧ DD K w H2 a o kvs ∧ KeyV K H2 b k ∧ valV kvs k = some v ∧ Q v H2
theorem pe_ddget (K : PySem.W.Frag) (w : World) (hu : X.A.units + 9 < cLine) (ho : PE X o td) (hi : PE X i ty) (hs : NoSl i) (hK : X.K = K := by rfl) (hw : X.w = w := by rfl) : PE X (.Subscript o i pos) (tDDGet K w td ty) := by
  subst hK
  subst hw
  refine ⟨fun pins s σ H Q I h => ?_⟩
  refine subD_of PySem.F.slot_dict_getitem.lookup hs (thn (ho.run pins s σ H _ I h) fun u s1 ⟨x, H1, I1, rx, q1⟩ => thn (hi.run pins s1 σ H1 _ I1 q1) fun iv s2 ⟨y, H2, I2, ry, a, b, oo, kvs, k, v, ex, ey, ha, hd, hb, l, q2⟩ => ?_)
  subst ex
  subst ey
  obtain rfl : u = Value.ref a := rx
  obtain rfl : iv = Value.ref b := ry
  obtain ⟨_, _, xs, _, dd⟩ := dd_of I2 ha hd
  exact ⟨dd.typeIs, dd_getItem hu I2 ha hd hb l fun w' s3 I3 rw' => ⟨v, H2, I3, rw', q2⟩⟩
def tDDIn (K : PySem.W.Frag) (w : World) (ty td : TE) : TE := fun σ H Q => ty σ H fun y H1 => td σ H1 fun x H2 => ∃ a b o kvs k, x = V.ref a ∧ y = V.ref b ∧ H2 a = some o ∧ DD K w H2 a o kvs ∧ KeyV K H2 b k ∧ Q (.bl (valV kvs k).isSome) H2
def tDDNotIn (K : PySem.W.Frag) (w : World) (ty td : TE) : TE := fun σ H Q => ty σ H fun y H1 => td σ H1 fun x H2 => ∃ a b o kvs k, x = V.ref a ∧ y = V.ref b ∧ H2 a = some o ∧ DD K w H2 a o kvs ∧ KeyV K H2 b k ∧ Q (.bl (!(valV kvs k).isSome)) H2
theorem pc_ddin (K : PySem.W.Frag) (w : World) (hu : X.A.units + 9 < cLine) (hi : PE X i ty) (ho : PE X o td) (hK : X.K = K := by rfl) (hw : X.w = w := by rfl) : PC X .In i o (tDDIn K w ty td) := by
  subst hK
  subst hw
  refine ⟨fun pins s σ H Q I h => ?_⟩
  refine thn (hi.run pins s σ H _ I h) fun iv s1 ⟨y, H1, I1, ry, q1⟩ => thn (ho.run pins s1 σ H1 _ I1 q1) fun u s2 ⟨x, H2, I2, rx, a, b, oo, kvs, k, ex, ey, ha, hd, hb, q2⟩ => ?_
  subst ex
  subst ey
  obtain rfl : u = Value.ref a := rx
  obtain rfl : iv = Value.ref b := ry
  exact dd_in hu I2 ha hd hb fun s3 I3 => ⟨.bl _, H2, I3, rfl, q2⟩
theorem pc_ddnotin (K : PySem.W.Frag) (w : World) (hu : X.A.units + 9 < cLine) (hi : PE X i ty) (ho : PE X o td) (hK : X.K = K := by rfl) (hw : X.w = w := by rfl) : PC X .NotIn i o (tDDNotIn K w ty td) := by
  subst hK
  subst hw
  refine ⟨fun pins s σ H Q I h => ?_⟩
  refine thn (hi.run pins s σ H _ I h) fun iv s1 ⟨y, H1, I1, ry, q1⟩ => thn (ho.run pins s1 σ H1 _ I1 q1) fun u s2 ⟨x, H2, I2, rx, a, b, oo, kvs, k, ex, ey, ha, hd, hb, q2⟩ => ?_
  subst ex
  subst ey
  obtain rfl : u = Value.ref a := rx
  obtain rfl : iv = Value.ref b := ry
  exact dd_notIn hu I2 ha hd hb fun s3 I3 => ⟨.bl _, H2, I3, rfl, q2⟩
/-- d[y] = v; G: the part of the heap that stays -/
def sDDPut (K : PySem.W.Frag) (w : World) (td ty tv : TE) : TS := fun D σ H => tv σ H fun v H1 => td σ H1 fun x H2 => ty σ H2 fun y H3 => ∃ G a b o kvs k, x = V.ref a ∧ y = V.ref b ∧ H3 a = some o ∧ Same G H3 ∧ DD K w G a o kvs ∧ KeyV K G b k ∧ kvs.length < sizeLine ∧
  ∀ o', DD K w G a o' (putK kvs k v) → D.nx σ (upd H3 a o')
theorem ps_ddput (K : PySem.W.Frag) (w : World) (hu : X.A.units + 9 < cLine) (ho : PE X o td) (hi : PE X i ty) (hv : PE X value tv) (hs : swapsWith value (some (.Subscript o i pos')) pos.line X.env = pure false) (hK : X.K = K := by rfl) (hw : X.w = w := by rfl) :
    PS X (.Assign [.Subscript o i pos'] value pos) (sDDPut K w td ty tv) := by
  subst hK
  subst hw
  refine ⟨fun pins s σ H D I h => ?_⟩
  refine wpAny_Assign_Subscript (thn (hv.run pins s σ H _ I h) fun r s1 ⟨v, H1, I1, rv, q1⟩ => thn (ho.run pins s1 σ H1 _ I1 q1) fun u s2 ⟨x, H2, I2, rx, q2⟩ => thn (hi.run pins s2 σ H2 _ I2 q2) fun iv s3 ⟨y, H3, I3, ry, G, a, b, oo, kvs, k, ex, ey, ha, g, hd, hb, hl, q3⟩ => ?_) hs
  subst ex
  subst ey
  obtain rfl : u = Value.ref a := rx
  obtain rfl : iv = Value.ref b := ry
  exact dd_setItem hu I3 ha g hd hb hl rv fun o' s4 d' I4 => ⟨σ, _, I4, q3 o' d'⟩
/-- len(d) -/
theorem call_lenDD (K : PySem.W.Frag) (w : World) (hK : X.K = K := by rfl) (hw : X.w = w := by rfl) : CallR X (.builtin "len") (fun xs H Q => ∃ a o kvs, xs = [V.ref a] ∧ H a = some o ∧ DD K w H a o kvs ∧ Q (.int kvs.length) H) := by
  subst hK
  subst hw
  intro pins s σ H xs us Q I r q
  obtain ⟨a, oo, kvs, ex, ha, hd, q⟩ := q
  subst ex
  obtain ⟨u, eu, rx⟩ := vals1 r
  subst eu
  cases rx
  obtain ⟨z, lo, ys, rel, dd⟩ := dd_of I ha hd
  have e : kvs.length = ys.length := Paired.length rel
  refine dd_len lo dd (by rw [← e]; rw [sizeLine_eq] at z; omega) ?_
  rw [← e]
  exact ⟨.int kvs.length, H, I.tok _, ⟨_, rfl⟩, q⟩
/-- {k: v}; the new dict stands empty while the pair is made -/
def tDD1 (K : PySem.W.Frag) (w : World) (tk tv : TE) : TE := fun σ H Q => ∀ p o0, H p = none → (∀ G, DD K w G p o0 []) → tk σ (upd H p o0) fun y H1 => tv σ H1 fun v H2 => ∃ G b k, y = V.ref b ∧ H2 p = some o0 ∧ Same G H2 ∧ KeyV K G b k ∧ ∀ o', DD K w G p o' [(k, v)] → Q (.ref p) (upd H2 p o')
theorem pe_dd1 (K : PySem.W.Frag) (w : World) {kx vx : Expr} {tk : TE} (hu : X.A.units + 9 < cLine) (hk : PE X kx tk) (hv : PE X vx tv) (hK : X.K = K := by rfl) (hw : X.w = w := by rfl) : PE X (.Dict [some kx] [vx] pos) (tDD1 K w tk tv) := by
  subst hK
  subst hw
  refine ⟨fun pins s σ H Q I h => ?_⟩
  have hs : (s.heap.objs.size == sysModules) = false := beq_eq_false_iff_ne.mpr (Ne.symm (Nat.ne_of_lt I.big))
  have hn := I.hok.fresh (Nat.le_refl s.heap.objs.size)
  have h := h s.heap.objs.size _ hn (fun G => dd_new G hs)
  have I1 : Inv X pins σ (upd H s.heap.objs.size (dO s.heap.objs.size #[] 0)) { s with heap := s.heap.push { cls := .type "dict", data := .dict #[] } } :=
    I.laid (a := s.heap.objs.size) (o := dO s.heap.objs.size #[] 0) (t' := s.toks) (fun _ _ q => Heap.get?_push_of_some _ q) (Nat.le_refl _)
      ⟨⟨_, Heap.get?_push_size _ rfl, ⟨rfl, rfl, rfl⟩, rfl⟩, ⟨_, Heap.get?_push_size _ rfl⟩, fun h1 h2 ⟨o, k1, k2, k3⟩ kk => ⟨o, kk _ k1, k2, k3⟩⟩
  rw [arm_eval_Dict]
  have shape := zip_pairTrees [some kx] [vx] X.env pos rfl rfl
  rw [shape, dictDisplay_pairs _ (by simp [pairTrees]) (by simp [pairTrees])]
  refine wpAny_bind (wpAny_standAt (wpAny_bind ?_))
  unfold subDict
  refine wpAny_bind (wpAny_alloc ?_)
  refine wpAny_bind (wpAny_holding ?_)
  rw [if_pos (by simp [pairTrees])]
  refine wpAny_bind ?_
  refine pairTrees_cons_walk (thn (hk.run pins _ σ _ _ I1 h) fun kv s2 ⟨y, H1, I2, ry, q1⟩ => thn (hv.run pins s2 σ H1 _ I2 q1) fun vv s3 ⟨v, H2, I3, rv, G, b, k, ey, hp, g, hb, q2⟩ => pairTrees_nil_walk ?_)
  subst ey
  obtain rfl : kv = Value.ref b := ry
  refine wpAny_holding ?_
  refine wpAny_bind ?_
  rw [List.forIn_cons]
  obtain ⟨_, _, ys, rel, dd⟩ := dd_of I3 hp (dd_new H2 hs)
  cases rel
  refine wpAny_bind (wpAny_bind (wpAny_dictSet_heap (hsz := by show 0 ≤ sizeLine; exact Nat.zero_le _) (show X.A.units + 8 < cLine by omega) (keyV_is I3 (hb.same g)) dd fun h' dd' hs' => wpAny_pure ?_))
  dsimp only
  rw [List.forIn_nil]
  refine wpAny_pure (wpAny_pure (wpAny_pure ?_))
  obtain ⟨es', ep', I', e4, e5⟩ := dd_write (es0 := #[]) (ep0 := 0) I3 hp hs' dd'
  refine wpAny_pure ⟨.ref s.heap.objs.size, _, I', rfl, q2 _ ⟨by show 1 ≤ sizeLine; rw [sizeLine_eq]; omega, hs, es', ep', _, rfl, e4, e5, ?_⟩⟩
  exact (KD.put (kvs := []) (xs := []) .nil k hb rv)
end
end XL
set_option Elab.async false
set_option linter.all false
set_option maxRecDepth 100000
set_option maxHeartbeats 4000000
/-! XDictC: dict comprehensions whose keys are nested tuples. -/
namespace XL
open PySem PySem.Spec PySem.SeqAt PyProof.Rows L2
section
variable {X : Cx} {pins : List (Addr × Obj)} {σ : L2.St} {H : Hp} {s : Shared} {a b : Addr} {o : HO} {k : PyData} {kvs : List (PyData × V)} {A : Around} {E : Value → Shared → Prop}
theorem dd_dictSet {G : Hp} {v : V} {r : Value} {Q : Unit → Shared → Prop} (hu : A.units + 9 < cLine) (I : Inv X pins σ H s) (e : H a = some o) (g : Same G H) (h : DD X.K X.w G a o kvs) (hb : KeyV X.K G b k) (hl : kvs.length < sizeLine) (rv : RelV v r)
    (q : ∀ o' s', DD X.K X.w G a o' (putK kvs k v) → Inv X pins σ (upd H a o') s' → Q () s') : wpAny (model X.prog X.w) A (dictSet a (.ref b) r) Q E s := by
  obtain ⟨h1, h2, es, ep, ys, rfl, h4, h5, h6⟩ := h
  obtain ⟨⟨ob, k1, k2, k3⟩, _⟩ := I.hok a _ e
  have rel := h6.keeps g
  have dd : s.heap.DictOfH (dataKind X.prog X.w) a ys := ⟨ob, es, ep, k1, k2, k3, h4, kd_all I rel, h5⟩
  have hz : ys.length ≤ sizeLine := by rw [← Paired.length rel]; exact h1
  refine wpAny_dictSet_heap (hsz := hz) (show A.units + 8 < cLine by omega) (keyV_is I (hb.same g)) dd fun h' dd' hs => ?_
  obtain ⟨es', ep', I', e4, e5⟩ := dd_write I e hs dd'
  exact q _ _ ⟨by have := length_putK kvs k v; omega, h2, es', ep', _, rfl, e4, e5, h6.put k hb rv⟩ I'
end
section
variable {X : Cx}
/-- {k: v for target in iter if ..}, the keys nested tuples: D the new dict -/
def tDcD (K : PySem.W.Frag) (w : World) (wi : TI) (g : TG) (tt : TT) (tk tv : TE) (vs : List Nat) : TE := fun σ H Q => wi σ H fun J H1 => ∀ D o0, H1 D = none → (∀ G, DD K w G D o0 []) → ∃ W : Nat → Nat → Hp → Prop, (∃ m, W 0 m (upd H1 D o0)) ∧ ∀ i m H, W i m H →
  (J.stop i H ∧ Q (.ref D) H) ∨ (J.go i H ∧ ∃ Nx : Hp → Prop, (∀ H', Nx H' → ∃ m', m' < m ∧ W (i + 1) m' H') ∧ ∀ x H', J.yld i H x H' → g x (wipe σ vs) H' fun σ2 H2 => wipe σ2 vs = wipe σ vs ∧ tt σ2 H2 fun b H3 =>
    if b = true then tk σ2 H3 fun y H4 => tv σ2 H4 fun z H5 => ∃ G b o kvs k, y = V.ref b ∧ H5 D = some o ∧ Same G H5 ∧ DD K w G D o kvs ∧ KeyV K G b k ∧ kvs.length < sizeLine ∧ ∀ o', DD K w G D o' (putK kvs k z) → Nx (upd H5 D o') else Nx H3)
theorem dcD_core (hu : X.A.units + 9 < cLine) {pins : List (Addr × Obj)} {s : Shared} {σ : St} {H : Hp} {Q : VK} {kx vx tg iter : Expr} {ifs : List Expr} {scope : Scope} {own : List (Str × Nat)} {pos pos' : Pos} {wi : TI} {g : TG} {tt : TT} {tk tv : TE} {use : Option (Value → Sem Unit)} {Qf : Value → Shared → Prop}
    (hc : X.calm = true) (hN : X.N.Nodup) (I : Inv X pins σ H s) (hi : PI X tg iter wi) (ok : BlkOk X.N X.env.scope scope own)
    (hg : ∀ (s : Shared) (H : Hp) (C : Addr) (cl : List (Str × Addr)) (fp : List Addr), PG (X.blk s H scope (compEnvC scope cl C X.env) fp) tg g) (ht : ∀ (s : Shared) (H : Hp) (C : Addr) (cl : List (Str × Addr)) (fp : List Addr), PTs (X.blk s H scope (compEnvC scope cl C X.env) fp) ifs tt)
    (hk : ∀ (s : Shared) (H : Hp) (C : Addr) (cl : List (Str × Addr)) (fp : List Addr), PE (X.blk s H scope (compEnvC scope cl C X.env) fp) kx tk)
    (he : ∀ (s : Shared) (H : Hp) (C : Addr) (cl : List (Str × Addr)) (fp : List Addr), PE (X.blk s H scope (compEnvC scope cl C X.env) fp) vx tv) (hs : ∀ x, foldedSetIterable iter X.env x = pure x)
    (h : tDcD X.K X.w wi g tt tk tv (own.map (·.2)) σ H Q)
    (hRR : ∀ D C s' m H', Inv X pins σ H' s' → Q (.ref D) H' → s'.heap.Ns C m → FpOk X pins H' C → compPost (model X.prog X.w) X.A X.xe use Qf (.ref D) C (.ok .next) s') :
    wpAny (model X.prog X.w) X.A (comprehension (.DictComp kx vx [⟨tg, iter, ifs, 0⟩] scope pos) scope X.env pos' newDict false (eval iter X.env) use) Qf X.xe s := by
  have hfree : ∀ y ∈ scope.names, y.2 = .free → ∃ c, X.env.cells.lookup y.1 = some c := fun y hy e => by
    rcases ok.free y hy e with k | k
    · exact I.ok.has _ (.inl k)
    · exact I.ok.has _ (.inr k)
  refine wpAny_comprehension_free (use := use) rfl hs (closure_ok hfree) ok.kind (fun y hy e => by rw [ok.uniq y hy, e])
    (thn (hi.run pins s σ H _ I h) fun xv s1 hx => thn hx fun itv s2 h2 => ?_)
  obtain ⟨it, fp, tn, J, H2, e, I2, T, st2, f2, q⟩ := h2
  subst e
  refine wpAny_newObj_type (newEnv_comp ?_)
  generalize hD : s2.heap.objs.size = D
  have hDn : H2 D = none := I2.hok.fresh (Nat.le_of_eq hD)
  have hDs : (D == sysModules) = false := by rw [← hD]; exact beq_eq_false_iff_ne.mpr (Ne.symm (Nat.ne_of_lt I2.big))
  obtain ⟨W, ⟨m0, w0⟩, turn⟩ := q D (dO D #[] 0) hDn fun G => dd_new G hDs
  -- the new list
  generalize hs3 : ({ s2 with heap := s2.heap.push { cls := .type "dict", data := .dict #[] } } : Shared) = s3
  have I3 : Inv X pins σ (upd H2 D (dO D #[] 0)) s3 := by
    rw [← hs3]
    refine I2.laid (t' := s2.toks) (fun b o e => Heap.get?_push_of_some _ e) (Nat.le_of_eq hD) ?_
    rw [← hD]
    exact ⟨⟨_, Heap.get?_push_size _ rfl, ⟨rfl, rfl, rfl⟩, rfl⟩, ⟨_, Heap.get?_push_size _ rfl⟩, fun h1 h2 ⟨o, k1, k2, k3⟩ kk => ⟨o, kk _ k1, k2, k3⟩⟩
  have h3 : s3.heap = s2.heap.push { cls := .type "dict", data := .dict #[] } := by rw [← hs3]
  have sz : ∀ b ∈ fp, b < s2.heap.objs.size := fun b hb => by
    obtain ⟨o, e, _⟩ := T.obj _ _ st2 b hb
    exact Heap.lt_size e
  have f3 : ∀ b ∈ fp, FpOk X pins (upd H2 D (dO D #[] 0)) b ∧ b < s3.heap.objs.size := fun b hb => by
    have hlt := sz b hb
    refine ⟨⟨?_, (f2 b hb).2⟩, by rw [h3, Heap.size_push]; exact Nat.lt_succ_of_lt hlt⟩
    rw [upd_ne (by rw [← hD]; exact Nat.ne_of_lt hlt)]
    exact (f2 b hb).1
  have st3 : tn 0 s3.heap := T.keep _ _ _ st2 fun b _ o e => by rw [h3]; exact Heap.get?_push_of_some _ e
  have I4 := block_start I3 ok hN f3
  have pg := hg s3 (upd H2 D (dO D #[] 0)) s3.heap.objs.size (cellsFrom (s3.heap.objs.size + 1) scope.names (cloFrom X.env.cells scope.names [])) fp
  have pt := ht s3 (upd H2 D (dO D #[] 0)) s3.heap.objs.size (cellsFrom (s3.heap.objs.size + 1) scope.names (cloFrom X.env.cells scope.names [])) fp
  have pk := hk s3 (upd H2 D (dO D #[] 0)) s3.heap.objs.size (cellsFrom (s3.heap.objs.size + 1) scope.names (cloFrom X.env.cells scope.names [])) fp
  have pe := he s3 (upd H2 D (dO D #[] 0)) s3.heap.objs.size (cellsFrom (s3.heap.objs.size + 1) scope.names (cloFrom X.env.cells scope.names [])) fp
  show codeAny _ _ (.compStart (.DictComp kx vx [⟨tg, iter, ifs, 0⟩] scope pos) 0 (.ref it) (.ref D) (compEnvC scope (cellsFrom (s3.heap.objs.size + 1) scope.names (cloFrom X.env.cells scope.names [])) s3.heap.objs.size X.env)) (compPost (model X.prog X.w) X.A X.xe use Qf (.ref D) s3.heap.objs.size) { s3 with heap := pushCells (s3.heap.push { cls := .type "dict", data := .dict #[] }) scope.names }
  have nfp : ∀ b ∈ fp, (upd H2 D (dO D #[] 0)) b = none := fun b hb => (f3 b hb).1.1
  generalize hce : compEnvC scope (cellsFrom (s3.heap.objs.size + 1) scope.names (cloFrom X.env.cells scope.names [])) s3.heap.objs.size X.env = ce at I4 pg pt pk pe ⊢
  have cL : ce.locals = s3.heap.objs.size := by subst hce; rfl
  generalize hH3 : upd H2 D (dO D #[] 0) = H3 at I3 I4 pg pt pk pe w0 nfp f3
  generalize hs4 : ({ s3 with heap := pushCells (s3.heap.push { cls := .type "dict", data := .dict #[] }) scope.names } : Shared) = s4 at I4 ⊢
  have st4 : tn 0 s4.heap := T.keep _ _ _ st3 fun b _ o e => by rw [← hs4]; exact pushCells_keeps _ _ _ _ (Heap.get?_push_of_some _ e)
  have stat : ∀ {σ' : St} {H' : Hp} {s' : Shared}, Inv (X.blk s3 H3 scope ce fp) [] σ' H' s' → (∀ b ∈ fp, H' b = none) → ∀ b ∈ fp, FpOk (X.blk s3 H3 scope ce fp) [] H' b := fun {σ' H' s'} I' hn b hb =>
    ⟨hn b hb, (I'.ok.exf b hb).1, I'.ok.exfs b hb, .inl hb, fun x c e => (I'.ok.exf b hb).2 x c e, fun p hp => absurd (show p ∈ ([] : List (Addr × Obj)) ++ [] from hp) (by simp)⟩
  have loop : codeAny (model X.prog X.w) X.A (.compLoop (.DictComp kx vx [⟨tg, iter, ifs, 0⟩] scope pos) 0 (.ref it) (.ref D) ce) (compPost (model X.prog X.w) X.A X.xe use Qf (.ref D) s3.heap.objs.size) s4 := by
    refine compLoop_anyD (fun n s' => ∃ i H', Inv (X.blk s3 H3 scope ce fp) [] (wipe σ (own.map (·.2))) H' s' ∧ tn i s'.heap ∧ (∀ b ∈ fp, H' b = none) ∧ W i n H') ?_ m0 ⟨0, H3, I4, st4, nfp, w0⟩
    rintro n s5 ⟨i, H5, I5, st5, n5, w5⟩
    rcases turn i n H5 w5 with ⟨stop, qq⟩ | ⟨go, Nx, hNx, step⟩
    · have td := T.done (X.blk s3 H3 scope ce fp) rfl rfl rfl hc i [] s5 _ H5 (fun _ _ => False) I5 (stat I5 n5) st5 stop
      refine thnF td fun r s6 ⟨hr, I6⟩ => ?_
      subst hr
      -- back in the def's context
      have I7 : Inv X pins σ H5 s6 := I3.call' (ch := fp) I6.os I6.base I6.hok I6.bare fun b hb => ⟨(f3 b hb).1.2.2.2.1, (f3 b hb).1.2.1, (f3 b hb).1.2.2.2.2.1, (f3 b hb).1.2.2.2.2.2⟩
      have nC : H5 s3.heap.objs.size = none := by
        have z : H5 ce.locals = none := I6.free
        rw [cL] at z
        exact z
      obtain ⟨m, hn, _⟩ := I6.loc
      have hn : s6.heap.Ns ce.locals m := hn
      rw [cL] at hn
      exact hRR D s3.heap.objs.size s6 m H5 I7 qq hn (I3.fpOk (Nat.le_refl _) nC)
    · have ti := T.item (X.blk s3 H3 scope ce fp) rfl rfl rfl hc i [] s5 _ H5 (fun _ _ => False) I5 (stat I5 n5) st5 go
      refine thnF ti fun r s6 ⟨u, hr, h6⟩ => ?_
      subst hr
      refine thnF h6 fun _ s7 ⟨x, H7, I7, r7, y7, st7, n7⟩ => ?_
      have I7' := I7.pinned (stat I7 n7) (T.obj _ _ st7)
      refine thnF (pg.run _ s7 _ H7 x u _ I7' r7 (step x H7 y7)) fun _ s8 ⟨σ8, H8, I8, hw8, q8⟩ => ?_
      refine thnF (pt.run _ s8 σ8 H8 _ I8 q8) fun b s9 ⟨H9, I9, q9⟩ => ?_
      -- the turn's end
      have fin : ∀ {s' : Shared} {H' : Hp}, Inv (X.blk s3 H3 scope ce fp) ([] ++ pinsAt fp s7.heap) σ8 H' s' → Nx H' → ∃ m, m < n ∧ ∃ i H', Inv (X.blk s3 H3 scope ce fp) [] (wipe σ (own.map (·.2))) H' s' ∧ tn i s'.heap ∧ (∀ b ∈ fp, H' b = none) ∧ W i m H' := fun {s' H'} I' nx => by
        obtain ⟨m', hm, w'⟩ := hNx H' nx
        have pin' : ∀ b ∈ fp, ∀ o, s7.heap.get? b = some o → s'.heap.get? b = some o ∧ H' b = none := fun b hb o e =>
          let z := I'.pin (b, o) (List.mem_append_right _ (List.mem_append_right _ (mem_pinsAt hb e)))
          ⟨z.1, z.2.1⟩
        have hl : (wipe σ (own.map (·.2))).length = σ8.length := by rw [← hw8, wipe_length]
        refine ⟨m', hm, i + 1, H', (I'.unpinned (pins := [])).weak hl (fun j v e => ?_), T.keep _ _ _ st7 fun b hb o e => (pin' b hb o e).1, fun b hb => ?_, w'⟩
        · rw [← hw8] at e
          exact (wipe_some e).1
        · obtain ⟨o, e, _⟩ := T.obj _ _ st7 b hb
          exact (pin' b hb o e).2
      cases b with
      | false =>
        simp only [Bool.false_eq_true, if_false] at q9 ⊢
        exact fin I9 q9
      | true =>
        simp only [if_true] at q9 ⊢
        refine thnF (pk.run _ s9 σ8 H9 _ I9 q9) fun z s10 ⟨yk, H10, I10, r10, q10⟩ => ?_
        refine thnF (pe.run _ s10 σ8 H10 _ I10 q10) fun z2 s11 ⟨yv, H11, I11, r11, G, b, o, kvs, k, ek, hD11, g11, dd11, kb11, hz11, nx⟩ => ?_
        subst ek
        obtain rfl : z = Value.ref b := r10
        exact dd_dictSet (X := X.blk s3 H3 scope ce fp) hu I11 hD11 g11 dd11 kb11 hz11 r11 fun o' s12 d12 I12 => fin I12 (nx o' d12)
  exact codeAny_compStart_dict loop (T.self X.A 0 _ _ _ st4 loop)
/-- as a value -/
theorem pe_dcD (K : PySem.W.Frag) (w : World) (hu : X.A.units + 9 < cLine) {kx vx tg iter : Expr} {ifs : List Expr} {scope : Scope} {own : List (Str × Nat)} {pos : Pos} {wi : TI} {g : TG} {tt : TT} {tk tv : TE} (hc : X.calm = true) (hN : X.N.Nodup) (hi : PI X tg iter wi) (ok : BlkOk X.N X.env.scope scope own)
    (hg : ∀ (s : Shared) (H : Hp) (C : Addr) (cl : List (Str × Addr)) (fp : List Addr), PG (X.blk s H scope (compEnvC scope cl C X.env) fp) tg g) (ht : ∀ (s : Shared) (H : Hp) (C : Addr) (cl : List (Str × Addr)) (fp : List Addr), PTs (X.blk s H scope (compEnvC scope cl C X.env) fp) ifs tt)
    (hk : ∀ (s : Shared) (H : Hp) (C : Addr) (cl : List (Str × Addr)) (fp : List Addr), PE (X.blk s H scope (compEnvC scope cl C X.env) fp) kx tk)
    (he : ∀ (s : Shared) (H : Hp) (C : Addr) (cl : List (Str × Addr)) (fp : List Addr), PE (X.blk s H scope (compEnvC scope cl C X.env) fp) vx tv) (hs : ∀ x, foldedSetIterable iter X.env x = pure x := by intro _; rfl) (hK : X.K = K := by rfl) (hw : X.w = w := by rfl) :
    PE X (.DictComp kx vx [⟨tg, iter, ifs, 0⟩] scope pos) (tDcD K w wi g tt tk tv (own.map (·.2))) := by
  subst hK hw
  refine ⟨fun pins s σ H Q I h => ?_⟩
  rw [arm_eval_DictComp]
  refine dcD_core hu hc hN I hi ok hg ht hk he hs h fun D C s' m H' I' q hn f => ⟨m, hn, fun h'' sb => ?_⟩
  obtain ⟨f0, f1, f2, f3, f4, f5⟩ := f
  exact ⟨.ref D, H', I'.turned (t' := s'.toks) (fun b o hb e => (sb.2 b hb).trans e) f0 f1 f3 f4 f5, rfl, q⟩
/-- name = {..} on one line, the name a local -/
theorem ps_setDcD (K : PySem.W.Frag) (w : World) (hu : X.A.units + 9 < cLine) {i : Nat} {y : Str} {py : Pos} {kx vx tg iter : Expr} {ifs : List Expr} {scope : Scope} {own : List (Str × Nat)} {pos spos : Pos} {wi : TI} {g : TG} {tt : TT} {tk tv : TE} (hc : X.calm = true) (hN : X.N.Nodup) (hy : X.N[i]? = some y) (hyl : X.env.scope.names.lookup y = some .local)
    (hsw : swapsWith (.DictComp kx vx [⟨tg, iter, ifs, 0⟩] scope pos) (some (.Name y py)) spos.line X.env = pure true) (hi : PI X tg iter wi) (ok : BlkOk X.N X.env.scope scope own)
    (hg : ∀ (s : Shared) (H : Hp) (C : Addr) (cl : List (Str × Addr)) (fp : List Addr), PG (X.blk s H scope (compEnvC scope cl C X.env) fp) tg g) (ht : ∀ (s : Shared) (H : Hp) (C : Addr) (cl : List (Str × Addr)) (fp : List Addr), PTs (X.blk s H scope (compEnvC scope cl C X.env) fp) ifs tt)
    (hk : ∀ (s : Shared) (H : Hp) (C : Addr) (cl : List (Str × Addr)) (fp : List Addr), PE (X.blk s H scope (compEnvC scope cl C X.env) fp) kx tk)
    (he : ∀ (s : Shared) (H : Hp) (C : Addr) (cl : List (Str × Addr)) (fp : List Addr), PE (X.blk s H scope (compEnvC scope cl C X.env) fp) vx tv) (hs : ∀ x, foldedSetIterable iter X.env x = pure x := by intro _; rfl) (hK : X.K = K := by rfl) (hw : X.w = w := by rfl) :
    PS X (.Assign [.Name y py] (.DictComp kx vx [⟨tg, iter, ifs, 0⟩] scope pos) spos) (tAsg (tDcD K w wi g tt tk tv (own.map (·.2))) (gName i)) := by
  subst hK hw
  refine ⟨fun pins s σ H D I h => ?_⟩
  rw [exec_Assign_Name_used _ _ _ _ hsw]
  refine wpAny_bind (wpAny_standAt (wpAny_bind ?_))
  show wpAny _ X.A (do let _ ← comprehension (.DictComp kx vx [⟨tg, iter, ifs, 0⟩] scope pos) scope X.env (firstIterPos [⟨tg, iter, ifs, 0⟩] pos) newDict false (eval iter X.env) (some (assign (.Name y py) X.env))) _ _ s
  have h : tDcD X.K X.w wi g tt tk tv (own.map (·.2)) σ H (fun x H1 => gName i x σ H1 D.nx) := h
  refine wpAny_bind (thn (dcD_core hu (Qf := fun _ s' => SP X pins D .next s') hc hN I hi ok hg ht hk he hs h fun L C s' m H' I' q hn f => ?_) fun _ s' hq => wpAny_pure (wpAny_pure hq))
  show wpAny _ _ (assign (.Name y py) X.env (.ref L)) _ _ _
  refine wpAny_assign_Name (store_ok2 (v := V.ref L) I' hN hy (.inl hyl) rfl (fun s2 I2 ⟨a, sb, ha⟩ => ?_) (.inr hyl))
  obtain ⟨f0, f1, f2, f3, f4, f5⟩ := f
  have haC : C ≠ a := by
    rcases ha with z | z
    · rw [z]; exact f1
    · exact fun e => f4 y a z e.symm
  refine ⟨m, hn.sameBut sb haC, fun h3 sb3 => ?_⟩
  exact ⟨_, H', I2.turned (t' := s2.toks) (fun b o hb e => (sb3.2 b hb).trans e) f0 f1 f3 f4 f5, q⟩
end
end XL
set_option Elab.async false
set_option linter.all false
set_option maxRecDepth 100000
set_option maxHeartbeats 4000000
/-! XDictP: d.pop(k) and d.items() of dicts whose keys are nested tuples. -/
namespace XL
open PySem PySem.Spec PySem.SeqAt PyProof.Rows L2
theorem KD.drop {K : PySem.W.Frag} {H : Hp} {kvs : List (PyData × V)} {xs : List (PyData × Addr × Value)} (r : KD K H kvs xs) (k : PyData) : KD K H (dropK kvs k) (withoutH xs k) := by
  unfold dropK withoutH
  induction r with
  | nil => exact .nil
  | @cons p q ps qs h t ih =>
    by_cases e : p.1 = k
    · have e' : q.1 = k := h.1.symm.trans e
      rw [List.filter_cons_of_neg (by simp [e]), List.filter_cons_of_neg (by simp [e'])]
      exact ih
    · have e' : ¬ q.1 = k := fun z => e (h.1.trans z)
      rw [List.filter_cons_of_pos (by simp [e]), List.filter_cons_of_pos (by simp [e'])]
      exact .cons h ih
section
variable {X : Cx} {pins : List (Addr × Obj)} {σ : L2.St} {H : Hp} {s : Shared} {a b : Addr} {o : HO} {k : PyData} {kvs : List (PyData × V)} {A : Around} {E : Value → Shared → Prop}
theorem dd_pop {G : Hp} {v : V} {Q : Value → Shared → Prop} (hu : A.units + 9 < cLine) (I : Inv X pins σ H s) (e : H a = some o) (g : Same G H) (h : DD X.K X.w G a o kvs) (hb : KeyV X.K G b k) (l : valV kvs k = some v)
    (q : ∀ o' w' s', DD X.K X.w G a o' (dropK kvs k) → Inv X pins σ (upd H a o') s' → RelV v w' → Q w' s') : wpAny (model X.prog X.w) A (call (.builtin "dict.pop") [.ref a, .ref b]) Q E s := by
  obtain ⟨h1, h2, es, ep, ys, rfl, h4, h5, h6⟩ := h
  obtain ⟨⟨ob, k1, k2, k3⟩, _⟩ := I.hok a _ e
  have rel := h6.keeps g
  have dd : s.heap.DictOfH (dataKind X.prog X.w) a ys := ⟨ob, es, ep, k1, k2, k3, h4, kd_all I rel, h5⟩
  have hz : ys.length ≤ sizeLine := by rw [← Paired.length rel]; exact h1
  obtain ⟨w', hw, rw'⟩ := RelO.some_of (v := v) (o := (atKey ys k).map (·.2)) (by rw [← l]; exact rel.val k)
  obtain ⟨p, hp, hp2⟩ := Option.map_eq_some_iff.mp hw
  refine call_pop_heap (hsz := hz) (.inl rfl) (PySem.F.args_dict_pop_2 _ _) (show A.in1.units + 8 < cLine from by have : A.in1.units = A.units + 1 := rfl; omega) (keyV_is I (hb.same g)) h2 dd hp fun h' dd' hs => ?_
  obtain ⟨es', ep', I', e4, e5⟩ := dd_write I e hs dd'
  rw [hp2]
  refine q _ _ _ ⟨?_, h2, es', ep', _, rfl, e4, e5, h6.drop k⟩ I' rw'
  have : (dropK kvs k).length ≤ kvs.length := List.length_filter_le _ _
  omega
end
/-- d.pop(k), the key there -/
def tDDPop (K : PySem.W.Frag) (w : World) (td ty : TE) : TE := fun σ H Q => td σ H fun x H1 => ∃ a o1 kvs1, x = V.ref a ∧ H1 a = some o1 ∧ DD K w H1 a o1 kvs1 ∧ ty σ H1 fun y H2 => ∃ G b o kvs k v, y = V.ref b ∧ H2 a = some o ∧ Same G H2 ∧ DD K w G a o kvs ∧ KeyV K G b k ∧ valV kvs k = some v ∧
  ∀ o', DD K w G a o' (dropK kvs k) → Q v (upd H2 a o')
theorem pe_ddpop {X : Cx} {o e : Expr} {apos cpos : Pos} {td ty : TE} (K : PySem.W.Frag) (w : World) (hu : X.A.units + 9 < cLine) (ho : PE X o td) (he : PE X e ty) (m : M1 X o "pop" apos e cpos) (hK : X.K = K := by rfl) (hw : X.w = w := by rfl) :
    PE X (.Call (.Attribute o "pop" apos) [e] [] cpos) (tDDPop K w td ty) := by
  subst hK hw
  refine ⟨fun pins s σ H Q I h => ?_⟩
  refine wpAny_Call_method m.base m.few m.line PySem.F.plainAttrs_dict PySem.F.slot_dict_pop PySem.F.type_dict_pop (thn (ho.run pins s σ H _ I h) fun u s1 ⟨x, H1, I1, rx, a, o1, kvs1, ex, h1, d1, q1⟩ => ?_)
  subst ex
  obtain rfl : u = Value.ref a := rx
  obtain ⟨_, _, xs, _, dd⟩ := dd_of I1 h1 d1
  refine ⟨dd.typeIs, fun b q => ?_, ?_⟩
  · cases q
    obtain ⟨ob, _, _, z1, z2, _⟩ := dd
    exact ⟨ob, z1, z2.2.1⟩
  rw [m.trees]
  refine Calls.callWith_builtin rfl (Calls.evalArgs_plain (Calls.spliced_cons (thn (he.run pins s1 σ H1 _ I1 q1) fun iv s2 ⟨y, H2, I2, ry, G, b, o, kvs, k, v, ey, ea, g, d, kb, l, q2⟩ => Calls.spliced_nil ?_)))
  subst ey
  obtain rfl : iv = Value.ref b := ry
  exact dd_pop (A := _) hu I2 ea g d kb l fun o' w' s3 d' I3 rw' => ⟨v, _, I3, rw', q2 o' d'⟩
/-! ### d.items() -/
/-- the pairs, each a new tuple; the keys' own tuples stand in G -/
def ItiD (K : PySem.W.Frag) (G : Hp) (d : Addr) (o : Obj) (es : Array DictEntry) (ep : Nat) (kvs : List (PyData × V)) : It :=
  ⟨fun i H => H d = some (.frz o (dO d es ep)) ∧ i < kvs.length, fun i H x H' => ∃ T k b v, kvs[i]? = some (k, v) ∧ KeyV K G b k ∧ x = .ref T ∧ H T = none ∧ H' = upd H T (.tup [.ref b, v]), fun i H => H d = some (.frz o (dO d es ep)) ∧ kvs.length ≤ i⟩
section
variable {P : Program} {w : World} {K : PySem.W.Frag} {G : Hp} {d : Addr} {o : Obj} {es : Array DictEntry} {ep : Nat} {kvs : List (PyData × V)} {xs : List (PyData × Addr × Value)}
theorem ents_len (hx : es.toList = xs.map (rowD w)) (kd : KD K G kvs xs) : es.size = kvs.length := by
  rw [← Array.length_toList, hx, List.length_map]
  exact (Paired.length kd).symm
theorem ents_at (hx : es.toList = xs.map (rowD w)) (kd : KD K G kvs xs) {i : Nat} (hi : i < kvs.length) (hi' : i < es.size) : ∃ k b v u, kvs[i]? = some (k, v) ∧ KeyV K G b k ∧ RelV v u ∧ es[i].key = .ref b ∧ es[i].val = u := by
  have h1 : kvs[i]? = some kvs[i] := List.getElem?_eq_getElem hi
  obtain ⟨q, hq, e1, e2, e3⟩ := prd_get kd h1
  have h2 : es.toList[i]? = some es[i] := by rw [List.getElem?_eq_getElem (by rw [Array.length_toList]; exact hi')]; rfl
  rw [hx, List.getElem?_map, hq] at h2
  have h3 : rowD w q = es[i] := Option.some.inj h2
  refine ⟨kvs[i].1, q.2.1, kvs[i].2, q.2.2, h1, e2, e3, ?_, ?_⟩
  · rw [← h3]
    rfl
  · rw [← h3]
    rfl
theorem turn_itemsD {elts : List Expr} {kk : Nat} {tpos : Pos} (it : Addr) (hx : es.toList = xs.map (rowD w)) (kd : KD K G kvs xs) :
    Turn P w K (.Tuple elts kk tpos) (ItiD K G d o es ep kvs) [it] it (fun i h => ∃ ok ov, IsItemIter h it d i kvs.length ep ok ov) where
  mem := by simp
  obj := fun i h st b hb => by
    have e : b = it := by simpa using hb
    subst e
    obtain ⟨ok, ov, e⟩ := st
    exact ⟨_, e, fun v z => nomatch z⟩
  keep := fun i h h' st k => let ⟨ok, ov, e⟩ := st; ⟨ok, ov, k it (by simp) _ e⟩
  item := by
    intro X hP hw hK hc i pins s σ H E I hf st hg
    subst hP hw hK
    obtain ⟨hd, hi⟩ := hg
    obtain ⟨hgd, hraw, _⟩ := I.hok d _ hd
    have hl := ents_len hx kd
    have hi' : i < es.size := by omega
    obtain ⟨k, b, v, u, hkv, hkb, ru, ek, ev⟩ := ents_at hx kd hi hi'
    obtain ⟨ok, ov, he⟩ := st
    rw [← hl] at he
    have hlt : it < s.heap.objs.size := Heap.lt_size he
    refine wpAny_pyNext_items_item_raw he hraw hi' fun h' ho hT hz hk => ?_
    rw [ek, ev] at ho hT
    refine ⟨_, rfl, wpAny_letOwnedTupleGo_items (s := { s with heap := h' }) ho fun h'' he' sb => ?_⟩
    have hT2 : h''.get? s.heap.objs.size = some { cls := .type "tuple", data := .seq #[.ref b, u] } := (sb.2 _ (Nat.ne_of_gt hlt)).trans hT
    have new : ObjOk X.prog X.w (upd H s.heap.objs.size (.tup [.ref b, v])) h'' s.heap.objs.size (.tup [.ref b, v]) :=
      ⟨by show 2 ≤ sizeLine; decide, [.ref b, u], .cons rfl (.cons ru .nil), ⟨_, hT2, rfl, _, rfl⟩⟩
    have I1 : Inv X pins σ (upd H s.heap.objs.size (.tup [.ref b, v])) { s with heap := h'' } :=
      I.turnedNew (t' := s.toks) (ch := [it]) (fun b ob hb e => (sb.2 b (by simpa using hb)).trans (hk b ob (by simpa using hb) e)) hf (Nat.le_refl _) new
    refine ⟨.ref s.heap.objs.size, _, I1, rfl, ⟨_, k, b, v, hkv, hkb, rfl, I.hok.fresh (Nat.le_refl _), rfl⟩, ⟨.ref b, u, ?_⟩, fun b' hb => ?_⟩
    · rw [← hl]; exact he'
    · have e : b' = it := by simpa using hb
      rw [e, upd_ne (Nat.ne_of_lt hlt)]
      exact (hf it (by simp)).1
  done := by
    intro X hP hw hK hc i pins s σ H E I hf st hg
    subst hP hw hK
    obtain ⟨hd, hi⟩ := hg
    obtain ⟨f0, f1, f2, f3, f4, f5⟩ := hf it (by simp)
    obtain ⟨hgd, hraw, _⟩ := I.hok d _ hd
    have hl := ents_len hx kd
    obtain ⟨ok, ov, he⟩ := st
    rw [← hl] at he
    exact wpAny_pyNext_items_end_raw (I.ok.hd hc) he hraw (by omega) fun h' eb => ⟨rfl, I.turned (t' := s.toks) (fun b ob hb e => eb b ob hb e) f0 f1 f3 f4 f5⟩
  self := fun A i s Q E st h => let ⟨_, _, e⟩ := st; PySem.W.kcp_self e h
end
theorem walk_itemsD {K : PySem.W.Frag} {G : Hp} {d : Addr} {o : Obj} {es : Array DictEntry} {ep : Nat} {kvs : List (PyData × V)} : Walk (ItiD K G d o es ep kvs) kvs.length (fun H => H d = some (.frz o (dO d es ep)))
    (fun i H x H' => ∃ T k b v, kvs[i]? = some (k, v) ∧ KeyV K G b k ∧ x = .ref T ∧ H T = none ∧ H' = upd H T (.tup [.ref b, v])) := ⟨fun _ _ hi h => ⟨h, hi⟩, fun _ h => ⟨h, Nat.le_refl _⟩, fun _ _ _ _ _ _ y => y⟩
/-- d.items(), d locked -/
def iItemsD (K : PySem.W.Frag) (w : World) (td : TE) : TI := fun σ H R => td σ H fun x H1 => ∃ G d o es ep kvs xs, x = V.ref d ∧ H1 d = some (.frz o (dO d es ep)) ∧ (d == sysModules) = false ∧ es.toList = xs.map (rowD w) ∧ KD K G kvs xs ∧ R (ItiD K G d o es ep kvs) H1
theorem pi_itemsD {X : Cx} {e : Expr} {apos cpos : Pos} {td : TE} (K : PySem.W.Frag) (w : World) {elts : List Expr} {kk : Nat} {tpos : Pos} (he : PE X e td) (hbase : attributeBase e "items" X.env (eval e X.env) = eval e X.env := by rfl) (hline : (apos.endLine == cpos.line) = true := by rfl) (hK : X.K = K := by rfl) (hw : X.w = w := by rfl) :
    PI X (.Tuple elts kk tpos) (.Call (.Attribute e "items" apos) [] [] cpos) (iItemsD K w td) := by
  subst hK hw
  refine ⟨fun pins s σ H R I h => ?_⟩
  refine wpAny_Call_method (T := "dict") (id := "dict.items") hbase rfl hline PySem.F.plainAttrs_dict PySem.F.slot_dict_items PySem.F.type_dict_items (thn (he.run pins s σ H _ I h) fun u s1 ⟨x, H1, I1, rx, G, d, o, es, ep, kvs, xs, ex, hd, hs, hx, kd, q⟩ => ?_)
  subst ex
  obtain rfl : u = Value.ref d := rx
  obtain ⟨hgd, ⟨ob, k1, k2, k3⟩, _⟩ := I1.hok d _ hd
  have hraw : s1.heap.DictRaw d es ep := ⟨ob, k1, k2, k3⟩
  have hl := ents_len hx kd
  refine ⟨hraw.typeIs, fun b q => ?_, ?_⟩
  · cases q
    exact ⟨ob, k1, k2.2.1⟩
  have I2 : Inv X pins σ H1 { s1 with heap := s1.heap.push { cls := .type "dict_items", data := .fields #[.ref d] } } := I1.kept (t' := s1.toks) fun b ob q => Heap.get?_push_of_some _ q
  have fin : wpAny (model X.prog X.w) X.A (pyIter (.ref s1.heap.objs.size)) (PIE X pins σ (.Tuple elts kk tpos) R) X.xe { s1 with heap := s1.heap.push { cls := .type "dict_items", data := .fields #[.ref d] } } := by
    refine wpAny_pyIter_items_raw (d := d) ⟨_, Heap.get?_push_size _ rfl, rfl, rfl⟩ (hraw.at fun _ e => Heap.get?_push_of_some _ e) (pi_one (tk := s1.toks) I2 _ (turn_itemsD _ hx kd) ⟨.none, .none, ?_⟩ q)
    rw [← hl]
    exact Heap.get?_push_size _ rfl
  show wpAny _ _ (callWith cpos (.builtin "dict.items") [.ref d] [] []) _ X.xe s1
  exact method_meetsIn PySem.F.slot_dict_items PySem.F.entry_dict_items rfl (PySem.evalArgs_none ⟨rfl, hraw.typeIs, PySem.F.args_dict_items_1 _, _, meets_dict_items_raw d hs, ⟨es, ep, hraw⟩, fin⟩)
end XL
set_option Elab.async false
set_option linter.all false
set_option maxRecDepth 100000
set_option maxHeartbeats 4000000
/-! XExc2: an error of two fields, class E(ScreenError): __init__(self, owner, word): super().__init__(f'..{owner!r} {word!r}'); self.owner = owner; self.word = word. -/
namespace PySem
namespace XExc2
open PySem.W PySem.Calls PyProof.Rows PySem.HandSPX PySem.XExc
abbrev ow : Str := PySem.Str.ofString "owner"
abbrev wd : Str := PySem.Str.ofString "word"
def iA (p1 p2 p3 : Pos) : Arguments := { posonlyargs := [], args := [{ arg := "self", annotation := none, pos := p1 }, { arg := ow, annotation := none, pos := p2 }, { arg := wd, annotation := none, pos := p3 }], vararg := none, kwonlyargs := [], kw_defaults := [], kwarg := none, defaults := [] }
structure Ps2 where
  a : Pos
  b : Pos
  c : Pos
  d : Pos
  e : Pos
  f : Pos
  d2 : Pos
  e2 : Pos
  f2 : Pos
  g : Pos
  h : Pos
  i : Pos
  j : Pos
  k : Pos
  l : Pos
  m : Pos
  j2 : Pos
  k2 : Pos
  l2 : Pos
  m2 : Pos
def iSup (q : Ps2) : Expr := .Call (.Name "super" q.a) [] [] q.b
def iArg (msg : Str) (q : Ps2) : Expr := .JoinedStr [.Constant (.str msg) 0 q.d, .FormattedValue (.Name ow q.e) 114 none q.f, .Constant (.str " ") 0 q.d2, .FormattedValue (.Name wd q.e2) 114 none q.f2] q.g
def iCall (msg : Str) (q : Ps2) : Expr := .Call (.Attribute (iSup q) "__init__" q.c) [iArg msg q] [] q.h
def iB (msg : Str) (q : Ps2) : List Stmt := [.Expr (iCall msg q) q.i, .Assign [.Attribute (.Name "self" q.j) ow q.k] (.Name ow q.l) q.m, .Assign [.Attribute (.Name "self" q.j2) wd q.k2] (.Name wd q.l2) q.m2]
def Evals (msg : Str) (q : Ps2) : Prop := ∃ pl : Env → Sem Bool, ∀ env : Env, eval (iCall msg q) env = (do
  let ov ← attributeBase (iSup q) "__init__" env (eval (iSup q) env)
  standAt q.c.atName
  let (f, first) ← holding [ov] (getMethod ov "__init__" (pl env))
  callWith q.h f first (backTo q.h (starEach [iArg msg q] env)) [])
def iN : List (Str × NameKind) := [(PySem.Str.ofString "self", .local), (ow, .local), (wd, .local), (PySem.Str.ofString "__class__", .free), (PySem.Str.ofString "super", .globalImplicit)]
def iS : Scope := { kind := .function, names := iN, isGenerator := false, isCoroutine := false, more := [] }
/-- what the written part says of the class at C and of its __init__ at fI -/
structure ExTxt2 (P : Program) (K : Frag) (mg : Str → Option Value) (nm msg : Str) (C fI : Addr) : Prop where
  gC : mg nm = some (.ref C)
  cls : ∃ nm q N bs bm sn sub ab col dd k0 k1 k2 k3 k5, K.lookup C = some (excClassObj nm q C N bs bm true sn sub ab col dd k0 k1 k2 k3 k5 "ValueError.__new__") ∧ refsVE bm = true
  sa : findIn K (.ref C) "__setattr__" = some (some (.builtin "object.__setattr__"))
  ga : findIn K (.ref C) "__getattribute__" = some (some (.builtin "BaseException.__getattribute__"))
  gg : findIn K (.ref C) "__getattr__" = some none
  no1 : findIn K (.ref C) ow = some none
  no2 : findIn K (.ref C) wd = some none
  iC : findIn K (.ref C) "__init__" = some (some (.ref fI))
  tC : typeIn K (.ref fI) = some (.type "function")
  kC : keepIn K (.ref C) = true
  exC : subIn K (.ref C) (.type "BaseException") = some true
  tyC : typeIn K (.ref C) = some (.type "type")
  hdC : hasDictIn K C = true
  fn : ∃ (oc kV doc pm ct : Value) (od an : Option Addr) (osl : Array (Option Value)) (qual : Str) (cda cc : Addr) (p1 p2 p3 : Pos) (q : Ps2) (vs : Array Value) (file : Str) (tf : Tok) (ccl cl : Value) (cdd cld : Option Addr) (ccs csl : Array (Option Value)),
    K.lookup fI = some ⟨oc, od, .func (ksFn "__init__" qual (iA p1 p2 p3) (iB msg q) iS .none kV doc pm an (.ref cda) ct cc), osl⟩ ∧ codeIn K (.ref cda) qual = true ∧ K.lookup cda = some ⟨ccl, cdd, .fields vs, ccs⟩ ∧ vs[2]? = some (.str file tf) ∧
    ((P.main.file : Str) == file) = true ∧ K.lookup cc = some ⟨cl, cld, .cell (some (.ref C)), csl⟩ ∧ Evals msg q ∧
    ∀ x v u : Value, bindArgs (ksFn "__init__" qual (iA p1 p2 p3) (iB msg q) iS .none kV doc pm an (.ref cda) ct cc) ⟨[x, v, u], []⟩ = pure [(("self" : Str), x), (ow, v), (wd, u)]
  sup : ks_superIn K C C "__init__" = some (some (.builtin "ValueError.__init__"))
  subV : subIn K (.ref C) (.type "ValueError") = some true
  mroS : mroIn K C (.ref C) = some true
  opq : nsIn K cStatics "thirdparty.any" = some none
  htop : (P.main.scope.names.lookup ("super" : Str)).isSome = false
  hsup : mg "super" = none
  ml : msg.length ≤ 1000
section
variable {prog : Program} {w : World} {A : Around} {E : Value → Shared → Prop} {s : Shared}
theorem told2 {msg : Str} {env : Env} {q : Ps2} {m : Str → Option Value} {v u : Value} {h₀ : Heap} {Q : Value → Shared → Prop} (hn : s.heap.Ns env.locals m) (hv : m ow = some v) (hv2 : m wd = some u) (hr : Td prog w h₀ v) (hr2 : Td prog w h₀ u) (hk0 : ∀ b o, h₀.get? b = some o → s.heap.get? b = some o) (hu : A.units + 80 < cLine)
    (hml : msg.length ≤ 1000) (hk : env.scope.kind = .function) (hl : env.kindOf ow = some .local) (hl2 : env.kindOf wd = some .local)
    (h : ∀ u tk h', (∀ b o, s.heap.get? b = some o → h'.get? b = some o) → Q u { s with heap := h', toks := tk }) : wpAny (model prog w) A (eval (iArg msg q) env) Q E s := by
  unfold iArg
  have sm : ∀ n : Nat, n ≤ 300000 → n ≤ sizeLine := fun n hn => Nat.le_trans hn (by decide)
  refine wpAny_JoinedStr ?_
  have e0 : evalEach [Expr.Constant (.str msg) 0 q.d, .FormattedValue (.Name ow q.e) 114 none q.f, .Constant (.str " ") 0 q.d2, .FormattedValue (.Name wd q.e2) 114 none q.f2] env = [eval (.Constant (.str msg) 0 q.d) env, eval (.FormattedValue (.Name ow q.e) 114 none q.f) env, eval (.Constant (.str " ") 0 q.d2) env, eval (.FormattedValue (.Name wd q.e2) 114 none q.f2) env] := by first | rfl | simp [evalEach]
  rw [e0]
  refine Calls.Constant_str ⟨msg, _, rfl, ?_, ?_⟩
  · rw [Str.length_append]
    exact sm _ (by show 0 + msg.length ≤ _; omega)
  refine wpAny_FormattedValue_repr (ESX.ldL hn hv ?_ hk hl (by decide))
  refine hr.run _ _ _ _ ?hU hk0 fun y h' u1 tk hy hk' => ?_
  case hU => first | (show A.units + 70 < cLine; omega) | (simp [Around.under, Around.in1, Code.cUnits]; omega)
  have hl1 : (Str.empty ++ msg ++ y).length ≤ sizeLine := by
    rw [Str.length_append, Str.length_append]
    exact sm _ (by show 0 + msg.length + _ ≤ _; omega)
  have rest : ∀ tt : Nat, Joins (model prog w) A E [eval (.Constant (.str " ") 0 q.d2) env, eval (.FormattedValue (.Name wd q.e2) 114 none q.f2) env] (Str.empty ++ msg ++ y) (fun out s₁ => out.length ≤ sizeLine ∧ Q (.str out s₁.toks) { s₁ with toks := s₁.toks + 1 }) { s with heap := h', toks := tt } := fun tt => by
    have h1 : (" " : Str).length = 1 := rfl
    refine Calls.Constant_str ⟨" ", _, rfl, ?_, ?_⟩
    · rw [Str.length_append, Str.length_append, Str.length_append]
      exact sm _ (by show 0 + msg.length + _ + _ ≤ _; omega)
    refine wpAny_FormattedValue_repr (ESX.ldL (s := { s with heap := h', toks := _ }) (hn.keeps hk') hv2 ?_ hk hl2 (by decide))
    refine hr2.run _ _ _ _ ?hU2 (fun b o e => hk' b o (hk0 b o e)) fun y2 h'' u2 tk2 hy2 hk2 => ?_
    case hU2 => first | (show A.units + 70 < cLine; omega) | (simp [Around.under, Around.in1, Code.cUnits]; omega)
    have hl3 : (Str.empty ++ msg ++ y ++ (" " : Str) ++ y2).length ≤ sizeLine := by
      rw [Str.length_append, Str.length_append, Str.length_append, Str.length_append]
      exact sm _ (by show 0 + msg.length + _ + _ + _ ≤ _; omega)
    have out : ∀ (tk : Tok) (tt : Nat), ∃ (y' : Str) (t' : Tok), Value.str y2 tk = .str y' t' ∧ (Str.empty ++ msg ++ y ++ (" " : Str) ++ y').length ≤ sizeLine ∧ Joins (model prog w) A E [] (Str.empty ++ msg ++ y ++ (" " : Str) ++ y') (fun out s₁ => out.length ≤ sizeLine ∧ Q (.str out s₁.toks) { s₁ with toks := s₁.toks + 1 }) { s with heap := h'', toks := tt } := fun tk tt => ⟨_, _, rfl, hl3, hl3, h _ _ h'' (fun b o e => hk2 b o (hk' b o e))⟩
    exact wpAny_formatField_str (out _ _) (out _ _) (sm _ (by omega))
  have out : ∀ (tk : Tok) (tt : Nat), ∃ (y' : Str) (t' : Tok), Value.str y tk = .str y' t' ∧ (Str.empty ++ msg ++ y').length ≤ sizeLine ∧ Joins (model prog w) A E [eval (.Constant (.str " ") 0 q.d2) env, eval (.FormattedValue (.Name wd q.e2) 114 none q.f2) env] (Str.empty ++ msg ++ y') (fun out s₁ => out.length ≤ sizeLine ∧ Q (.str out s₁.toks) { s₁ with toks := s₁.toks + 1 }) { s with heap := h', toks := tt } := fun tk tt => ⟨_, _, rfl, hl1, rest tt⟩
  exact wpAny_formatField_str (out _ _) (out _ _) (sm _ (by omega))
end
structure InitEnd2 (h h' : Heap) (x C dx : Addr) (v u : Value) : Prop where
  keep : ∀ b o, b ≠ x → h.get? b = some o → h'.get? b = some o
  obj : ∃ t1 : Addr, h'.get? x = some { cls := .ref C, dict := some dx, data := .fields #[.ref t1, .none, .none, .none, .bool false, .none] }
  dbig : h.objs.size ≤ dx
  dne : dx ≠ x
  ns : h'.Ns1 dx (fun y => if y = wd then some u else if y = ow then some v else none)
structure OwnMade2 (h h' : Heap) (e C d : Addr) (v u : Value) : Prop where
  keep : ∀ b o, h.get? b = some o → h'.get? b = some o
  new : h.objs.size ≤ e
  obj : ∃ oe vs, h'.get? e = some oe ∧ oe.cls = .ref C ∧ oe.dict = some d ∧ oe.data = .fields vs ∧ vs[1]? = some .none
  dbig : h.objs.size ≤ d
  dne : d ≠ e
  ns : h'.Ns1 d (fun y => if y = wd then some u else if y = ow then some v else none)
section
variable {prog : Program} {w : World} {A : Around} {E : Value → Shared → Prop} {R : Result → Shared → Prop} {K : Frag} {mg mb : Str → Option Value} {nm msg : Str} {C fI : Addr}
theorem exc_init2 (T : ExTxt2 prog K mg nm msg C fI) {x t0 : Addr} {v u : Value} {hp : Heap} {g : Array GenState} {dr : Drawn} {tk : Nat} {os : OsState} (X : K.In hp) (hlim : hp.NoLimit) (hG : hp.Ns mainGlobals mg) (hB : hp.Ns builtinsNs mb) (hbb : ∀ x : Str, x ≠ "__name__" → mb x = bootBuiltins x)
    (hx : hp.get? x = some (excO C t0)) (hnx : K.lookup x = none) (hroom : A.depth < recursionLimit) (hun : A.units + 90 < cLine) (hr : Td prog w hp v) (hr2 : Td prog w hp u)
    (hq : ∀ h' tk' dx, InitEnd2 hp h' x C dx v u → R (.ok (.ret .none)) ⟨h', g, dr, tk', os⟩) :
    codeAny (model prog w) A (.call (.ref fI) ⟨[.ref x, v, u], []⟩) R ⟨hp, g, dr, tk, os⟩ := by
  obtain ⟨oc, kV, doc, pm, ct, od, an, osl, qual, cda, cc, p1, p2, p3, q, vs, file, tf, ccl, cl, cdd, cld, ccs, csl, ho, hcd, hcda, hvs, hfile, hcc, ⟨pl, hev⟩, hbind⟩ := T.fn
  obtain ⟨nm', q', N, bs, bm, sn, sub, ab, col, dd, k0, k1, k2, k3, k5, hC, hbm⟩ := T.cls
  have hcl : clsIn K C = some { name := nm', bases := bs, mro := .ref C :: bm, ns := N, qualname := q', hasDict := true, slotNames := sn, subclasses := sub, abstract := ab, collection := col, hasDel := false } := by unfold clsIn; rw [hC] <;> rfl
  have e1 : iS.names.lookup ow = some .local := by decide
  have e1b : iS.names.lookup wd = some .local := by decide
  have e2 : iS.names.lookup ("self" : Str) = some .local := by decide
  have e3 : iS.names.lookup ("__class__" : Str) = some .free := by decide
  have e4 : iS.names.lookup ("super" : Str) = some .globalImplicit := by decide
  refine ks_codeAny_call_defAt (fd := ksFn "__init__" qual (iA p1 p2 p3) (iB msg q) iS .none kV doc pm an (.ref cda) ct cc) (body := iB msg q) (binds := [("self", .ref x), (ow, v), (wd, u)]) hroom (X _ _ ho) rfl hlim (codeRec_of X hcd) rfl (BindsTo.of_eq (hbind _ _ _)) ?_ ?_ (fun h₁ hn k => ?_) rfl rfl rfl
  · intro y hy
    have hy : y ∈ iN := hy
    unfold iN at hy
    simp only [List.mem_cons, List.not_mem_nil, or_false] at hy
    rcases hy with rfl | rfl | rfl | rfl | rfl <;> exact fun z => nomatch z
  · intro y hy
    simp only [List.mem_cons, List.not_mem_nil, or_false] at hy
    rcases hy with rfl | rfl | rfl
    · exact e2
    · exact e1
    · exact e1b
  have X₁ : K.In h₁ := X.keeps k
  have hxL : hp.objs.size ≠ x := Nat.ne_of_gt (Heap.lt_size hx)
  have hx₁ := k _ _ hx
  have mS : List.lookup ("self" : Str) (List.reverse [(("self" : Str), Value.ref x), (ow, v), (wd, u)]) = some (.ref x) := rfl
  have mF : List.lookup ow (List.reverse [(("self" : Str), Value.ref x), (ow, v), (wd, u)]) = some v := rfl
  have mG : List.lookup wd (List.reverse [(("self" : Str), Value.ref x), (ow, v), (wd, u)]) = some u := rfl
  refine ks_wpAt_execs_cons (ks_wpAt_Expr_any (ks_wpAt_MethodCall (o := iSup q) (name := "__init__") (he := hev _) ?_))
  have oC := X₁ _ _ hC
  refine ks_wpAt_super_base (env := callEnv (ksFn "__init__" qual (iA p1 p2 p3) (iB msg q) iS .none kV doc pm an (.ref cda) ct cc) hp.objs.size fI) e4 e3 (by decide) rfl (X₁ _ _ ho) rfl rfl rfl (X₁ _ _ hcda) rfl hvs hfile T.htop ?_
  refine ks_loadName_global rfl e4 (loadGlobal_builtin (hG.keeps k) T.hsup (hB.keeps k) ((hbb _ (by decide +kernel)).trans (by first | boot_by_name | rfl | kernel_rfl)) ⟨rfl, ?_⟩)
  refine wpAny_loadName_free rfl e3 rfl ⟨_, X₁ _ _ hcc, rfl⟩ ?_
  refine wpAny_loadName_local rfl e2 hn mS ?_
  refine ks_wpAny_isType_cls oC rfl ⟨rfl, ?_⟩
  refine ks_wpAny_call_super oC rfl hx₁ rfl (fun c e => (nomatch e)) (looks_mroIn X₁ T.mroS) (fun h₂ hso k₂ => ?_)
  have X₂ : K.In h₂ := X₁.keeps k₂
  have hx₂ := k₂ _ _ hx₁
  have hsup : alongIn K "__init__" (((Value.ref C :: bm).dropWhile (· != .ref C)).drop 1) = some (some (.builtin "ValueError.__init__")) := by
    have z := T.sup
    unfold ks_superIn at z
    rw [hcl] at z
    exact z
  have I₂ : InstAt h₂ x (excO C t0) C none := ⟨hx₂, rfl, rfl, trivial⟩
  refine kxs_getMethod kxs_ValueError hso (looks_opaque X₂ T.opq) (l₀ := .ref C :: bm) ?_ rfl X₂ hsup (I₂.type.andThen (looks_subIn X₂ T.subV)) (ks_ne X₂ I₂ hcl) (by decide) ?_
  · exact fun A Q E s k q => wpAny_bind ((looks_clsIn X₂ hcl) A _ E s k (wpAny_pure q))
  have hu : (h₂.push (kxs_mw "ValueError.__init__" x)).get? h₂.objs.size = some (kxs_mw "ValueError.__init__" x) := Heap.get?_push_at rfl rfl
  have k₃ : ∀ b o, h₂.get? b = some o → (h₂.push (kxs_mw "ValueError.__init__" x)).get? b = some o := fun b o e => Heap.get?_push_of_some _ e
  have X₃ := X₂.keeps k₃
  have hn₃ : (h₂.push (kxs_mw "ValueError.__init__" x)).Ns hp.objs.size _ := (hn.keeps k₂).keeps k₃
  refine kxs_callWith (i := "ValueError.__init__") (x := x) rfl (evalArgs_plain ?_)
  show wpAny _ _ (spliced ((false, eval (iArg msg q) _) :: backTo q.h (starEach [] _))) _ _ _
  refine Calls.spliced_cons (told2 hn₃ mF mG hr hr2 (fun b o e => k₃ _ _ (k₂ _ _ (k _ _ e))) ?hU T.ml rfl e1 e1b fun u' tk' h' k' => Calls.spliced_nil ⟨k' _ _ hu, ?_⟩)
  case hU => first | exact hun | (show A.units + _ + 80 < cLine; omega) | (simp [Around.under, Around.in1, Code.cUnits]; omega)
  have k3' : ∀ b o, h₂.get? b = some o → h'.get? b = some o := fun b o e => k' _ _ (k₃ _ _ e)
  show wpAny _ _ (call (.ref h₂.objs.size) [u']) _ _ _
  refine call_mw (k' _ _ (X₃ _ _ hC)) (k3' _ _ hx₂) (k' _ _ hu) (one_size _) fun h₄ t1 k₄ sz₄ hx₄ => ?_
  show wpAt _ _ _ (execs _ _) _ _ _
  refine wpAt_of_wpAny ?_
  have X₄ : K.In h₄ := kept_but (X₃.keeps k') hnx k₄
  have hn₄ : h₄.Ns hp.objs.size (fun x_1 => List.lookup x_1 (List.reverse [(("self" : Str), Value.ref x), (ow, v), (wd, u)])) := by
    obtain ⟨oL, es, ep, hL, r⟩ := hn₃.keeps k'
    exact ⟨oL, es, ep, k₄ _ _ hxL hL, r⟩
  refine wpAny_execs_cons (plainObj_wpAny_Assign_Attribute ?_)
  refine ESX.ldL hn₄ mF (ESX.ldL hn₄ mS ?_ rfl e2) rfl e1 (by decide)
  refine set_plain X₄ (ox := excO C t1) (od := none) ⟨hx₄, rfl, rfl, trivial⟩ T.sa ?_
  refine exc_osa X₄ hx₄ hcl (show refsVE (.ref C :: bm) = true from hbm) rfl T.no1 (fun h₅ tk₅ dx k₅ dn dne hx₅ hn₅ => ?_)
  show wpAny _ _ (execs _ _) _ _ _
  have z : hp.objs.size < h₄.objs.size := hn₄.lt
  have X₅ : K.In h₅ := kept_but X₄ hnx k₅
  have hn₆ : h₅.Ns hp.objs.size (fun x_1 => List.lookup x_1 (List.reverse [(("self" : Str), Value.ref x), (ow, v), (wd, u)])) := by
    obtain ⟨oL, es, ep, hL, r⟩ := hn₄
    exact ⟨oL, es, ep, k₅ _ _ hxL hL, r⟩
  refine wpAny_execs_cons (plainObj_wpAny_Assign_Attribute ?_)
  refine ESX.ldL hn₆ mG (ESX.ldL hn₆ mS ?_ rfl e2) rfl e1b (by decide)
  have hw1 : Within (fun y => if y = ow then some v else none) [ow] := Within.cons ow v Within.nil
  obtain ⟨oD, esD, epD, hoD, hdD, _⟩ := hn₅.count hw1
  refine set_plain X₅ (ox := { cls := .ref C, dict := some dx, data := .fields #[.ref t1, .none, .none, .none, .bool false, .none] }) (od := some oD) ⟨hx₅, rfl, rfl, hoD⟩ T.sa ?_
  refine PySem.OEX.osa_old X₅ hx₅ hn₅ hw1 (by decide) hcl (show refsVE (.ref C :: bm) = true from hbm) rfl T.no2 (fun h₆ tk₆ k₆ hn₇ => ?_)
  show wpAny _ _ (execs _ _) _ _ _
  have hdx : ∀ {b o}, hp.get? b = some o → b ≠ dx := fun {b o} e => Nat.ne_of_lt (Nat.lt_of_lt_of_le (Heap.lt_size e) (Nat.le_of_lt (Nat.lt_of_lt_of_le z dn)))
  exact wpAny_execs_nil (hq h₆ tk₆ dx ⟨fun b o hb e => k₆ b o (hdx e) (k₅ b o hb (k₄ b o hb (k3' b o (k₂ b o (k b o e))))), ⟨t1, k₆ _ _ (Ne.symm dne) hx₅⟩, Nat.le_of_lt (Nat.lt_of_lt_of_le z dn), dne, hn₇⟩)
theorem two_size (v u : Value) : [v, u].length ≤ sizeLine := by
  rw [sizeLine_eq]
  exact (by decide : 2 ≤ 16777216)
theorem exc_made2 (T : ExTxt2 prog K mg nm msg C fI) {v u : Value} {hp : Heap} {g : Array GenState} {dr : Drawn} {tk : Nat} {os : OsState} (X : K.In hp) (hlim : hp.NoLimit) (hG : hp.Ns mainGlobals mg) (hB : hp.Ns builtinsNs mb) (hbb : ∀ x : Str, x ≠ "__name__" → mb x = bootBuiltins x) (hroom : A.depth + 1 < recursionLimit) (hun : A.units + 95 < cLine) (hr : Td prog w hp v) (hr2 : Td prog w hp u)
    (hq : ∀ h' tk' e d, OwnMade2 hp h' e C d v u → R (.ok (.ret (.ref e))) ⟨h', g, dr, tk', os⟩) :
    codeAny (model prog w) A (.call (.ref C) ⟨[v, u], []⟩) R ⟨hp, g, dr, tk, os⟩ := by
  obtain ⟨nm', q', N, bs, bm, sn, sub, ab, col, dd, k0, k1, k2, k3, k5, hC, hbm⟩ := T.cls
  have k : ∀ b o, hp.get? b = some o → ((hp.push (kdv_tup [v, u])).push (excO C hp.objs.size)).get? b = some o := fun b o e => Heap.get?_push_of_some _ (Heap.get?_push_of_some _ e)
  have hget : ((hp.push (kdv_tup [v, u])).push (excO C hp.objs.size)).get? (hp.objs.size + 1) = some (excO C hp.objs.size) := by heap_get
  have hnx : K.lookup (hp.objs.size + 1) = none := by
    cases e : K.lookup (hp.objs.size + 1) with
    | none => rfl
    | some o =>
      have z : hp.get? (hp.objs.size + 1) = some o := X _ _ e
      exact absurd (Nat.lt_of_succ_lt (Heap.lt_size z)) (Nat.lt_irrefl _)
  refine call_own F.excBase_ValueError (fun X => refsVE_contains X bm hbm) (X _ _ hC) (looks_findIn X T.iC) (fun self => bind_fn X self T.tC) (two_size v u) ?_
  refine exc_init2 (tk := tk) T (X.keeps k) (hlim.keeps k) (hG.keeps k) (hB.keeps k) hbb hget hnx ?_ ?hU (hr.keeps k) (hr2.keeps k) fun h' tk' dx ⟨k', ⟨t1, hx⟩, dn, dne, hns⟩ => ?_
  case hU => first | (show A.units + 90 < cLine; omega) | (show A.units + 1 + 90 < cLine; omega) | (simp [Around.under, Around.in1, Code.cUnits]; omega)
  · show A.depth + 1 < recursionLimit
    exact hroom
  · have old : ∀ b o, hp.get? b = some o → h'.get? b = some o := fun b o e => k' b o (Nat.ne_of_lt (Nat.lt_succ_of_lt (Heap.lt_size e))) (k b o e)
    have z : hp.objs.size + 1 + 1 ≤ dx := by
      first
        | (simpa only [Heap.size_push] using dn)
        | exact dn
        | (have q := dn; rw [Heap.size_push, Heap.size_push] at q; exact q)
    exact ⟨rfl, hq h' tk' (hp.objs.size + 1) dx ⟨old, Nat.le_succ _, ⟨_, _, hx, rfl, rfl, rfl, rfl⟩, Nat.le_trans (Nat.le_trans (Nat.le_succ _) (Nat.le_succ _)) z, dne, hns⟩⟩
end
end XExc2
end PySem
namespace XL
open PySem PySem.Spec PyProof.Rows L2
section
variable {X : Cx} {C fI : Addr} {nm msg : Str}
theorem relO_two {v u : V} {v' u' : Value} (rv : RelV v v') (ru : RelV u u') (f : Str) : RelO (List.lookup f [(PySem.XExc2.wd, u), (PySem.XExc2.ow, v)]) (if f = PySem.XExc2.wd then some u' else if f = PySem.XExc2.ow then some v' else none) := by
  by_cases h1 : f = PySem.XExc2.wd
  · subst h1
    rw [if_pos rfl]
    exact ru
  · rw [if_neg h1]
    have e1 : (f == PySem.XExc2.wd) = false := by simpa using h1
    by_cases h2 : f = PySem.XExc2.ow
    · subst h2
      rw [if_pos rfl]
      simp only [List.lookup, e1]
      have e2 : (PySem.XExc2.ow == PySem.XExc2.ow) = true := by decide
      simp only [e2]
      exact rv
    · rw [if_neg h2]
      have e2 : (f == PySem.XExc2.ow) = false := by simpa using h2
      simp only [List.lookup, e1, e2]
      exact True.intro
def tMk2 (K : PySem.W.Frag) (C : Addr) (ta : TA) : L2.St → Hp → XK → Prop := fun σ H Q => ta σ H fun vs H1 => ∃ v u, vs = [v, u] ∧ RpD K H1 v ∧ RpD K H1 u ∧ ∀ d, H1 d = none → Q (.ref C) (some d) (upd H1 d (.xd [(PySem.XExc2.wd, u), (PySem.XExc2.ow, v)]))
theorem pmk_x2 {a b : Expr} {ta : TA} {p pos : Pos} {k : Nat} (T : PySem.XExc2.ExTxt2 X.prog X.K X.mg nm msg C fI) (hr : Room (k + 1) X.A) (ha : PA X [a, b] ta) (hg : Gl X nm := by rfl) (hd : (nm == ("__debug__" : Str)) = false := by decide)
    (he : starEach (a :: [b]) X.env = (false, eval a X.env) :: starEach [b] X.env := by rfl) (hpl : (backTo pos (starEach [b] X.env)).any (·.1) = false := by rfl) :
    PMk X (.Call (.Name nm p) [a, b] [] pos) (tMk2 X.K C ta) := by
  intro pins s σ H Q I h
  refine wpAny_Call_Name_kw (ld_glob I hg T.gC ?_ hd)
  refine PySem.W.callWith_K (h₀ := X.base) I.ok.mod.kin T.kC (thn (ha.run pos pins s σ H _ I h) fun us s1 hh => ?_) he hpl
  obtain ⟨vs, H1, I1, r1, v, u, ev, rp, rp2, q1⟩ := hh
  subst ev
  refine ⟨I1.kIn, ?_⟩
  obtain ⟨v', u', eus, rv, ru⟩ := r1.two
  subst eus
  show wpAny _ _ (call (.ref C) [v', u']) _ _ _
  have hlim := I1.nolimit
  have hG := I1.mod.glob.keeps I1.bk
  obtain ⟨mb, hB, hbb⟩ := I1.mod.blt
  have hB := hB.keeps I1.bk
  obtain ⟨hp, g, dr, tk, os⟩ := s1
  refine wpAny_call (PySem.XExc2.exc_made2 T I1.kIn hlim hG hB hbb (by have := hr.dp; omega) (by have := hr.un; omega) (RpD.td I1 rp rv) (RpD.td I1 rp2 ru) fun h' tk' e d M => ?_)
  show MkP X pins σ Q (.ref e) ⟨h', g, dr, tk', os⟩
  obtain ⟨oe, fv, hoe, hc, hd, hdat, h1⟩ := M.obj
  have hns := M.ns
  obtain ⟨G', g1, g2⟩ := restrict h' fun b => decide (b ≠ e)
  have gk : ∀ b, b ≠ e → G'.get? b = h'.get? b := fun b hb => g1 b (decide_eq_true hb)
  have ge : G'.get? e = none := g2 e (by simp)
  have old : ∀ b o, hp.get? b = some o → G'.get? b = some o := fun b o q => (gk b (Nat.ne_of_lt (Nat.lt_of_lt_of_le (Heap.lt_size q) M.new))).trans (M.keep b o q)
  have ob : ObjOk X.prog X.w (upd H1 d (.xd [(PySem.XExc2.wd, u), (PySem.XExc2.ow, v)])) G' d (.xd [(PySem.XExc2.wd, u), (PySem.XExc2.ow, v)]) :=
    ⟨_, hns.at (fun o q => (gk d M.dne).trans q), fun f => relO_two rv ru f⟩
  have J : Inv X pins σ (upd H1 d (.xd [(PySem.XExc2.wd, u), (PySem.XExc2.ow, v)])) ⟨G', g, dr, tk', os⟩ := I1.laid (t' := tk') old M.dbig ob
  refine ⟨e, oe, fv, ⟨G', g, dr, tk', os⟩, _, .ref C, some d, rfl, J, fun b o q => ?_, ge, hoe, ⟨hc, hd⟩, hdat, h1, ?_, rfl, I1.bare, raises_own T.exC T.tyC, q1 d (I1.hok.fresh M.dbig)⟩
  · by_cases hb : b = e
    · have q' : G'.get? b = some o := q
      rw [hb, ge] at q'; cases q'
    · exact (gk b hb).symm.trans q
  · rw [upd_ne (Ne.symm M.dne)]
    exact I1.hok.fresh M.new
def tRaise2 (K : PySem.W.Frag) (C : Addr) (W : WX) (ta : TA) : TS := fun _ σ H => tMk2 K C ta σ H fun cls d H' => W cls d σ H'
theorem ps_raise2 {a b : Expr} {ta : TA} {W : WX} {p pos pos2 : Pos} {k : Nat} (hc : X.calm = true) (T : PySem.XExc2.ExTxt2 X.prog X.K X.mg nm msg C fI) (hr : Room (k + 1) X.A) (tk : Takes X W) (ha : PA X [a, b] ta) (hg : Gl X nm := by rfl) (hd : (nm == ("__debug__" : Str)) = false := by decide)
    (he : starEach (a :: [b]) X.env = (false, eval a X.env) :: starEach [b] X.env := by rfl) (hpl : (backTo pos (starEach [b] X.env)).any (·.1) = false := by rfl) :
    PS X (.Raise (some (.Call (.Name nm p) [a, b] [] pos)) none pos2) (tRaise2 X.K C W ta) := ps_raise hc tk (pmk_x2 T hr ha hg hd he hpl)
end
end XL
set_option Elab.async false
set_option linter.all false
set_option maxRecDepth 100000
set_option maxHeartbeats 4000000
/-! XTryAs: several except clauses with a name each (the shape of the proof follows HandS.TryMany and ps_try_as). -/
namespace XL
open PySem PySem.Spec PyProof.Rows L2
/-- what the clauses wish of an exception of the body, one after the other -/
def wManyAs (K : PySem.W.Frag) (Wout : WX) (D : Ends) : List (Value × Nat × (Addr → Value → Option Addr → TS)) → WX
  | [] => Wout
  | (c, i, ts) :: r => fun cls d σ H => ∃ b, PySem.W.exmOne K cls c = some b ∧ (b = true → ∀ a, H a = none → ts a cls d { nx := fun σ' H' => D.nx (σ'.set i none) H', rt := D.rt, bk := fun σ' H' => D.bk (σ'.set i none) H', ct := fun σ' H' => D.ct (σ'.set i none) H' } (σ.set i (some (.ref a))) H) ∧ (b = false → wManyAs K Wout D r cls d σ H)
inductive HdsAs (X : Cx) : List ExceptHandler → List (Value × Nat × (Addr → Value → Option Addr → TS)) → Prop
  | nil : HdsAs X [] []
  | cons {x n : Str} {c : Value} {i : Nat} {ts : Addr → Value → Option Addr → TS} {b₀ : Stmt} {suite : List Stmt} {np pos' : Pos} {hds : List ExceptHandler} {l : List (Value × Nat × (Addr → Value → Option Addr → TS))} (hi : X.N[i]? = some n) (hln : X.env.kindOf n = some .local) (hc : Names X x c)
      (hsu : ∀ (a : Addr) (oe : Obj) (cls : Value) (d : Option Addr) (pn : List (Addr × Obj)), Zc cls d oe → (∃ vs, oe.data = .fields vs) → PSs (X.suite a ((a, oe) :: pn)) (b₀ :: suite) (ts a cls d)) (r : HdsAs X hds l) :
      HdsAs X (.ExceptHandler (some (.Name x np)) (some n) (b₀ :: suite) pos' :: hds) ((c, i, ts) :: l)
section
variable {X : Cx} {body : List Stmt} {h₀ : ExceptHandler} {hds : List ExceptHandler} {l : List (Value × Nat × (Addr → Value → Option Addr → TS))} {pos : Pos} {tb : WX → TS} {Wout : WX}
theorem ps_try_manyAs (hs : X.stack = X.env :: X.outer) (hf : X.env.frame = some X.env.locals) (hN : X.N.Nodup) (tk : Takes X Wout)
    (hb : ∀ (W : WX) (pn : List (Addr × Obj)) (xe : Value → Shared → Prop), Takes (X.tr pn xe) W → PassesOwn (model X.prog X.w) X.A X.env xe → PSs (X.tr pn xe) body (tb W))
    (hh : HdsAs X (h₀ :: hds) l) : PS X (.Try body (h₀ :: hds) [] [] pos) (fun D σ H => tb (wManyAs X.K Wout D l) D σ H) := by
  refine ⟨fun pins s σ H D I h => ?_⟩
  have ok := I.ok
  have hfr : X.A.frames = some (X.env :: X.outer) := by rw [ok.frames, hs]
  refine wpAny_Try_except ?_
  refine wpAny_mono ((hb (wManyAs X.K Wout D l) (X.pn ++ pins) (fun e s₁ => wpAny (model X.prog X.w) X.A (noteFrame e X.env) (fun _ s₂ => wpAny (model X.prog X.w) X.A (setFlight e none) (fun _ s₃ =>
    wpAny (model X.prog X.w) X.A (handleBy e X.env (h₀ :: hds)) (SP X pins D) X.xe s₃) X.xe s₂) X.xe s₁) (fun u s' xx => ?_) PassesOwn.looking).run [] s σ H D (I.toTry _) h) (fun f s1 hsp => ?_) (fun e s1 he => he)
  · -- the catch
    obtain ⟨a, B, sI, pins', σ', H', cls, d, rfl, J', nb, up, sky, na, os, ag, w⟩ := xx
    have J : Inv X pins σ' H' sI := J'.ofTry ok
    have sky' : Sky B (X.env :: X.outer) a (Zc cls d) X.env.locals s'.heap := by rw [← hs]; exact sky
    show wpAny (model X.prog X.w) X.A (noteFrame (.ref a) X.env) _ _ _
    refine Sky.land Zc.steady hfr hf sky' fun h3 fl3 up3 => ?_
    have J3 : Inv X pins σ' H' { s' with heap := h3 } := J.landed nb fl3.1 (up.trans up3) os ag
    obtain ⟨oe3, vs3, he3, hz3, hd3⟩ := fl3.there
    have notFr : ∀ {h : Heap} {o : Obj} {vs : Array Value}, h.FunFrames B (X.env :: X.outer) → h.get? a = some o → o.data = .fields vs → a ∉ frs (X.env :: X.outer) := fun {h o vs} ff e dd hm => by
      obtain ⟨_, o', e', hnf⟩ := ff.mem hm
      rw [e] at e'; cases e'
      exact hnf _ dd
    have nfr := notFr fl3.2.2.1 he3 hd3
    have nL : a ≠ X.env.locals := fun z => nfr (List.mem_filterMap.mpr ⟨X.env, List.mem_cons_self, by rw [hf, z]⟩)
    have nF : a ∉ X.fs := fun hm => by
      obtain ⟨e, he, q⟩ := List.mem_filterMap.mp hm
      exact nfr (List.mem_filterMap.mpr ⟨e, List.mem_cons_of_mem _ he, q⟩)
    have S3 := J3.suite he3 hd3 na nL nF
    have go : ∀ {hds' : List ExceptHandler} {l' : List (Value × Nat × (Addr → Value → Option Addr → TS))}, HdsAs X hds' l' → wManyAs X.K Wout D l' cls d σ' H' →
        wpAny (model X.prog X.w) X.A (handleBy (.ref a) X.env hds') (SP X pins D) X.xe { s' with heap := h3 } := by
      intro hds' l' hk
      induction hk with
      | nil =>
        intro w
        refine wpAny_handleBy_nil ?_
        obtain ⟨k1, k2, k3, oe, vs, T, oT, ts', he, hz, hd, h1, hr⟩ := id fl3
        unfold PySem.passOn
        refine wpAny_bind (wpAny_field he hd h1 ?_)
        rw [if_neg (show ¬ ((Value.ref T == Value.none) = true) from by simp)]
        have fin : wpAny (model X.prog X.w) X.A (setFlight (.ref a) X.env.frame) (fun _ s4 => wpAny (model X.prog X.w) X.A (throw (.ref a) : Sem Flow) (SP X pins D) X.xe s4) X.xe { s' with heap := h3 } := by
          rw [hf]
          refine HandSPX.setFlight_upZ fl3 fun h4 hh4 up4 => wpAny_throw (tk _ _ ?_)
          exact ⟨a, B, sI, pins, σ', H', cls, d, rfl, J, nb, (up.trans up3).trans up4, .inr (.inr (by rw [hs]; exact hh4)), na, os, ag, w⟩
        first
          | exact wpAny_bind (wpAny_pure (wpAny_bind fin))
          | exact wpAny_bind fin
      | @cons x n c i ts b₀ suite np pos' hds2 l2 hi hln hc hsu r ih =>
        intro w
        have hloc : Loc X.env.scope n := .inl hln
        obtain ⟨b, hb1, hyes, hno⟩ := w
        refine wpAny_handleBy_cons (codeAny_handlers_test ?_) (by intro q; cases q)
        have LT : PySem.W.Looks (model X.prog X.w) h3 (typeOf (.ref a)) cls := fun A Q E s k q => wpAny_typeOf_ref (k _ _ he3) (by rw [hz3.1]; exact q)
        have LM := PySem.W.exm_one (M := model X.prog X.w) (J3.kIn) LT hb1
        have test : ∀ {Q : Value → Shared → Prop} {E : Value → Shared → Prop}, Q c { s' with heap := h3 } → wpAny (model X.prog X.w) (X.A.mark (some (.ref a))) (eval (.Name x np) X.env) Q E { s' with heap := h3 } := fun {Q E} q => by
          obtain ⟨hg, hdbg, hm | ⟨hm, hv, hnn⟩⟩ := hc
          · exact ld_glob (X := X.suite a ((a, oe3) :: (X.pn ++ pins))) S3 hg hm q hdbg
          · exact ld_blt (X := X.suite a ((a, oe3) :: (X.pn ++ pins))) S3 hg hm hv q hnn hdbg
        refine test (LM.here ?_)
        cases b with
        | true =>
          refine codeAny_handlers_suite_as ?_
          refine HandSPX.lands_againZ fl3 fun h4 fl4 up4 => ?_
          have J4 : Inv X pins σ' H' { s' with heap := h4 } := J.landed nb fl4.1 ((up.trans up3).trans up4) os ag
          obtain ⟨oe4, vs4, he4, hz4, hd4⟩ := fl4.there
          have S4 := J4.suite he4 hd4 na nL nF
          refine store_ok (X := X.suite a ((a, oe4) :: (X.pn ++ pins))) (v := .ref a) S4 hN hi hloc rfl (fun s5 S5 => ?_) (.inr hln)
          refine wpAny_mono ((hsu a oe4 cls d (X.pn ++ pins) hz4 ⟨_, hd4⟩).run [] s5 _ H' _ S5 (hyes rfl a na)) (fun f s6 hsp => ?_) (fun _ _ z => False.elim z)
          have end_ : ∀ {σ6 : St} {H6 : Hp} {Q : Shared → Prop}, Inv (X.suite a ((a, oe4) :: (X.pn ++ pins))) [] σ6 H6 s6 → (∀ s7, Inv X pins (σ6.set i none) H6 s7 → Q s7) →
              wpAny (model X.prog X.w) X.A (do bindName X.env n .none; unbindBehindTheSuite X.env n pos') (fun _ s7 => Q s7) X.xe s6 := fun {σ6 H6 Q} S6 hq => gone_ok (S6.unsuite ok) hN hi hln hq
          cases f with
          | next =>
            obtain ⟨σ6, H6, S6, q6⟩ := hsp
            exact end_ S6 fun s7 J7 => ⟨_, _, J7, q6⟩
          | brk =>
            obtain ⟨σ6, H6, S6, q6⟩ := hsp
            exact end_ S6 fun s7 J7 => ⟨_, _, J7, q6⟩
          | cont =>
            obtain ⟨σ6, H6, S6, q6⟩ := hsp
            exact end_ S6 fun s7 J7 => ⟨_, _, J7, q6⟩
          | ret u =>
            obtain ⟨v6, σ6, H6, S6, r6, q6⟩ := hsp
            exact end_ S6 fun s7 J7 => ⟨_, _, _, J7, r6, q6⟩
        | false =>
          show wpAny _ X.A (handleBy (.ref a) X.env hds2) _ _ _
          exact ih (hno rfl)
    exact go hh w
  · cases f with
    | next =>
      obtain ⟨σ', H', J', q⟩ := hsp
      exact wpAny_execs_nil ⟨σ', H', J'.ofTry ok, q⟩
    | brk =>
      obtain ⟨σ', H', J', q⟩ := hsp
      exact ⟨σ', H', J'.ofTry ok, q⟩
    | cont =>
      obtain ⟨σ', H', J', q⟩ := hsp
      exact ⟨σ', H', J'.ofTry ok, q⟩
    | ret u =>
      obtain ⟨v, σ', H', J', r, q⟩ := hsp
      exact ⟨v, σ', H', J'.ofTry ok, r, q⟩
end
end XL
set_option Elab.async false
set_option linter.all false
set_option maxRecDepth 100000
set_option maxHeartbeats 4000000
namespace K41
open PySem PySem.Spec PyProof.Rows L2 XL
def topS (i : Nat) : Stmt := PySem.Challenge.pw_drawnanew_k41_whole_once.main.body.getD i (.Pass ⟨0, 0, 0, 0⟩)
abbrev s_Effects_init : Stmt := inClass (topS 7) 0
theorem sc_Effects_init : FnScope ["self"] ["self"] (defScope s_Effects_init) := ⟨rfl, rfl, rfl, by decide +kernel, rfl, by decide +kernel, by decide +kernel⟩
abbrev s_Effects_bring : Stmt := inClass (topS 7) 1
theorem sc_Effects_bring : FnScope ["self", "entries", "wanted", "owner", "word", "value", "seen", "stays", "goes", "entry", "pair", "log", "kept"] ["self", "entries"] (defScope s_Effects_bring) := ⟨rfl, rfl, rfl, by decide +kernel, rfl, by decide +kernel, by decide +kernel⟩
abbrev s_Effects_armed : Stmt := inClass (topS 7) 2
theorem sc_Effects_armed : FnScope ["self", "entry"] ["self"] (defScope s_Effects_armed) := ⟨rfl, rfl, rfl, by decide +kernel, rfl, by decide +kernel, by decide +kernel⟩
abbrev s_sound : Stmt := topS 8
theorem sc_sound : FnScope ["log", "armed", "deed", "owner", "word", "value", "pair"] ["log"] (defScope s_sound) := ⟨rfl, rfl, rfl, by decide +kernel, rfl, by decide +kernel, by decide +kernel⟩
abbrev s_mixed : Stmt := topS 10
theorem sc_mixed : FnScope ["_law_number_here", "_law_turn", "_law_first", "_law_second"] ["_law_number_here", "_law_turn"] (defScope s_mixed) := ⟨rfl, rfl, rfl, by decide +kernel, rfl, by decide +kernel, by decide +kernel⟩
abbrev s_bag : Stmt := topS 11
theorem sc_bag : FnScope ["_law_script", "_law_cell", "_law_numbers", "_law_seed", "_law_at"] ["_law_script"] (defScope s_bag) := ⟨rfl, rfl, rfl, by decide +kernel, rfl, by decide +kernel, by decide +kernel⟩
abbrev s_pick : Stmt := topS 12
theorem sc_pick : FnScope ["_law_bag_here", "_law_many", "_law_turn", "_law_cell", "_law_worth"] ["_law_bag_here", "_law_many"] (defScope s_pick) := ⟨rfl, rfl, rfl, by decide +kernel, rfl, by decide +kernel, by decide +kernel⟩
abbrev s_mingled : Stmt := topS 13
theorem sc_mingled : FnScope ["_law_bag_here", "_law_things", "_law_left", "_law_out", "_law_step_here"] ["_law_bag_here", "_law_things"] (defScope s_mingled) := ⟨rfl, rfl, rfl, by decide +kernel, rfl, by decide +kernel, by decide +kernel⟩
abbrev s_number : Stmt := topS 14
theorem sc_number : FnScope ["_law_thing"] ["_law_thing"] (defScope s_number) := ⟨rfl, rfl, rfl, by decide +kernel, rfl, by decide +kernel, by decide +kernel⟩
abbrev s_new_name : Stmt := topS 15
theorem sc_new_name : FnScope ["_law_bag_here", "_law_used", "_law_letters", "_law_told", "_law_near", "_law_at", "_law_tails", "_law_step_here", "_law_k", "_law_tail"] ["_law_bag_here", "_law_used"] (defScope s_new_name) := ⟨rfl, rfl, rfl, by decide +kernel, rfl, by decide +kernel, by decide +kernel⟩
abbrev s_step : Stmt := topS 16
theorem sc_step : FnScope ["_law_bag_here", "_law_number_here"] ["_law_bag_here"] (defScope s_step) := ⟨rfl, rfl, rfl, by decide +kernel, rfl, by decide +kernel, by decide +kernel⟩
abbrev s_owner : Stmt := topS 17
theorem sc_owner : FnScope ["_law_bag_here", "_law_owners", "_law_steps", "_law_step_here"] ["_law_bag_here", "_law_owners"] (defScope s_owner) := ⟨rfl, rfl, rfl, by decide +kernel, rfl, by decide +kernel, by decide +kernel⟩
abbrev s_pairs : Stmt := topS 18
theorem sc_pairs : FnScope ["_law_bag_here", "_law_most", "_law_words", "_law_step_here", "_law_owners", "_law_owner_here", "_law_pairs_here", "_law_word"] ["_law_bag_here", "_law_most"] (defScope s_pairs) := ⟨rfl, rfl, rfl, by decide +kernel, rfl, by decide +kernel, by decide +kernel⟩
abbrev s_seen : Stmt := topS 19
theorem sc_seen : FnScope ["_law_bag_here", "_law_seen_here", "_law_row", "_law_way", "_law_step_here"] ["_law_bag_here", "_law_seen_here"] (defScope s_seen) := ⟨rfl, rfl, rfl, by decide +kernel, rfl, by decide +kernel, by decide +kernel⟩
abbrev s_entries : Stmt := topS 20
theorem sc_entries : FnScope ["_law_bag_here", "_law_pairs_here", "_law_before", "_law_order", "_law_rows_here", "_law_pair", "_law_way", "_law_value", "_law_seen_here"] ["_law_bag_here", "_law_pairs_here", "_law_before"] (defScope s_entries) := ⟨rfl, rfl, rfl, by decide +kernel, rfl, by decide +kernel, by decide +kernel⟩
abbrev s_same : Stmt := topS 21
theorem sc_same : FnScope ["_law_told", "_law_due", "_law_row", "_law_part"] ["_law_told", "_law_due"] (defScope s_same) := ⟨rfl, rfl, rfl, by decide +kernel, rfl, by decide +kernel, by decide +kernel⟩
abbrev s_rows : Stmt := topS 22
theorem sc_rows : FnScope ["_law_log", "_law_row"] ["_law_log"] (defScope s_rows) := ⟨rfl, rfl, rfl, by decide +kernel, rfl, by decide +kernel, by decide +kernel⟩
abbrev s_walk : Stmt := topS 23
theorem sc_walk : FnScope ["_law_log", "_law_armed", "_law_at", "_law_row", "_law_there", "_law_one"] ["_law_log"] (defScope s_walk) := ⟨rfl, rfl, rfl, by decide +kernel, rfl, by decide +kernel, by decide +kernel⟩
abbrev s_outcome : Stmt := topS 24
theorem sc_outcome : FnScope ["_law_log", "_law_told", "error"] ["_law_log"] (defScope s_outcome) := ⟨rfl, rfl, rfl, by decide +kernel, rfl, by decide +kernel, by decide +kernel⟩
abbrev s_by_base : Stmt := topS 25
theorem sc_by_base : FnScope ["_law_log", "error"] ["_law_log"] (defScope s_by_base) := ⟨rfl, rfl, rfl, by decide +kernel, rfl, by decide +kernel, by decide +kernel⟩
abbrev s_judged : Stmt := topS 26
theorem sc_judged : FnScope ["_law_log", "_law_at", "_law_word", "_law_armed", "_law_given", "_law_told", "_law_rows_here"] ["_law_log"] (defScope s_judged) := ⟨rfl, rfl, rfl, by decide +kernel, rfl, by decide +kernel, by decide +kernel⟩
abbrev s_free : Stmt := topS 27
theorem sc_free : FnScope ["_law_bag_here", "_law_pairs_here", "_law_log", "_law_step_here", "_law_pair", "_law_there", "_law_row"] ["_law_bag_here", "_law_pairs_here"] (defScope s_free) := ⟨rfl, rfl, rfl, by decide +kernel, rfl, by decide +kernel, by decide +kernel⟩
abbrev s_changed : Stmt := topS 28
theorem sc_changed : FnScope ["_law_bag_here", "_law_log", "_law_pairs_here", "_law_out", "_law_step_here", "_law_at", "_law_way", "_law_pair", "_law_row"] ["_law_bag_here", "_law_log", "_law_pairs_here"] (defScope s_changed) := ⟨rfl, rfl, rfl, by decide +kernel, rfl, by decide +kernel, by decide +kernel⟩
abbrev s_law : Stmt := topS 29
theorem sc_law : FnScope ["_law_script", "_law_bag_here", "_law_pairs_here", "_law_board", "_law_log", "_law_before", "_law_rows_here", "_law_turn", "_law_told", "_law_row", "_law_one", "_law_at", "_law_word", "_law_armed", "_law_free_here"] ["_law_script"] (defScope s_law) := ⟨rfl, rfl, rfl, by decide +kernel, rfl, by decide +kernel, by decide +kernel⟩
abbrev s_ArmedTwice_init : Stmt := inClass (topS 3) 0
abbrev s_NotArmed_init : Stmt := inClass (topS 4) 0
abbrev s_OldValue_init : Stmt := inClass (topS 5) 0
/-- what the top leaves -/
structure Top (K : PySem.W.Frag) (mg : Str → Option Value) (W : World) where
  m_ValueError : mg "ValueError" = none
  m_abs : mg "abs" = none
  m_bool : mg "bool" = none
  m_enumerate : mg "enumerate" = none
  m_int : mg "int" = none
  m_isinstance : mg "isinstance" = none
  m_len : mg "len" = none
  m_list : mg "list" = none
  m_range : mg "range" = none
  m_str : mg "str" = none
  m_tuple : mg "tuple" = none
  a_Effects_init : Addr
  d_Effects_init : FuncData
  F_Effects_init : Fun K "__init__" "Effects.__init__" s_Effects_init a_Effects_init d_Effects_init
  b_Effects_init : Binds K d_Effects_init ["self"] []
  a_Effects_bring : Addr
  d_Effects_bring : FuncData
  F_Effects_bring : Fun K "bring" "Effects.bring" s_Effects_bring a_Effects_bring d_Effects_bring
  b_Effects_bring : Binds K d_Effects_bring ["self", "entries"] []
  a_Effects_armed : Addr
  d_Effects_armed : FuncData
  F_Effects_armed : Fun K "armed" "Effects.armed" s_Effects_armed a_Effects_armed d_Effects_armed
  b_Effects_armed : Binds K d_Effects_armed ["self"] []
  a_sound : Addr
  d_sound : FuncData
  F_sound : Fun K "sound" "sound" s_sound a_sound d_sound
  b_sound : Binds K d_sound ["log"] []
  g_sound : mg "sound" = some (.ref a_sound)
  a_mixed : Addr
  d_mixed : FuncData
  F_mixed : Fun K "_law_mixed" "_law_mixed" s_mixed a_mixed d_mixed
  b_mixed : Binds K d_mixed ["_law_number_here", "_law_turn"] []
  g_mixed : mg "_law_mixed" = some (.ref a_mixed)
  a_bag : Addr
  d_bag : FuncData
  F_bag : Fun K "_law_bag" "_law_bag" s_bag a_bag d_bag
  b_bag : Binds K d_bag ["_law_script"] []
  g_bag : mg "_law_bag" = some (.ref a_bag)
  a_pick : Addr
  d_pick : FuncData
  F_pick : Fun K "_law_pick" "_law_pick" s_pick a_pick d_pick
  b_pick : Binds K d_pick ["_law_bag_here", "_law_many"] []
  g_pick : mg "_law_pick" = some (.ref a_pick)
  a_mingled : Addr
  d_mingled : FuncData
  F_mingled : Fun K "_law_mingled" "_law_mingled" s_mingled a_mingled d_mingled
  b_mingled : Binds K d_mingled ["_law_bag_here", "_law_things"] []
  g_mingled : mg "_law_mingled" = some (.ref a_mingled)
  a_number : Addr
  d_number : FuncData
  F_number : Fun K "_law_number" "_law_number" s_number a_number d_number
  b_number : Binds K d_number ["_law_thing"] []
  g_number : mg "_law_number" = some (.ref a_number)
  a_new_name : Addr
  d_new_name : FuncData
  F_new_name : Fun K "_law_new_name" "_law_new_name" s_new_name a_new_name d_new_name
  b_new_name : Binds K d_new_name ["_law_bag_here", "_law_used"] []
  g_new_name : mg "_law_new_name" = some (.ref a_new_name)
  a_step : Addr
  d_step : FuncData
  F_step : Fun K "_law_step" "_law_step" s_step a_step d_step
  b_step : Binds K d_step ["_law_bag_here"] []
  g_step : mg "_law_step" = some (.ref a_step)
  a_owner : Addr
  d_owner : FuncData
  F_owner : Fun K "_law_owner" "_law_owner" s_owner a_owner d_owner
  b_owner : Binds K d_owner ["_law_bag_here", "_law_owners"] []
  g_owner : mg "_law_owner" = some (.ref a_owner)
  a_pairs : Addr
  d_pairs : FuncData
  F_pairs : Fun K "_law_pairs" "_law_pairs" s_pairs a_pairs d_pairs
  b_pairs : Binds K d_pairs ["_law_bag_here", "_law_most"] []
  g_pairs : mg "_law_pairs" = some (.ref a_pairs)
  a_seen : Addr
  d_seen : FuncData
  F_seen : Fun K "_law_seen" "_law_seen" s_seen a_seen d_seen
  b_seen : Binds K d_seen ["_law_bag_here", "_law_seen_here"] []
  g_seen : mg "_law_seen" = some (.ref a_seen)
  a_entries : Addr
  d_entries : FuncData
  F_entries : Fun K "_law_entries" "_law_entries" s_entries a_entries d_entries
  b_entries : Binds K d_entries ["_law_bag_here", "_law_pairs_here", "_law_before"] []
  g_entries : mg "_law_entries" = some (.ref a_entries)
  a_same : Addr
  d_same : FuncData
  F_same : Fun K "_law_same" "_law_same" s_same a_same d_same
  b_same : Binds K d_same ["_law_told", "_law_due"] []
  g_same : mg "_law_same" = some (.ref a_same)
  a_rows : Addr
  d_rows : FuncData
  F_rows : Fun K "_law_rows" "_law_rows" s_rows a_rows d_rows
  b_rows : Binds K d_rows ["_law_log"] []
  g_rows : mg "_law_rows" = some (.ref a_rows)
  a_walk : Addr
  d_walk : FuncData
  F_walk : Fun K "_law_walk" "_law_walk" s_walk a_walk d_walk
  b_walk : Binds K d_walk ["_law_log"] []
  g_walk : mg "_law_walk" = some (.ref a_walk)
  a_outcome : Addr
  d_outcome : FuncData
  F_outcome : Fun K "_law_outcome" "_law_outcome" s_outcome a_outcome d_outcome
  b_outcome : Binds K d_outcome ["_law_log"] []
  g_outcome : mg "_law_outcome" = some (.ref a_outcome)
  a_by_base : Addr
  d_by_base : FuncData
  F_by_base : Fun K "_law_by_base" "_law_by_base" s_by_base a_by_base d_by_base
  b_by_base : Binds K d_by_base ["_law_log"] []
  g_by_base : mg "_law_by_base" = some (.ref a_by_base)
  a_judged : Addr
  d_judged : FuncData
  F_judged : Fun K "_law_judged" "_law_judged" s_judged a_judged d_judged
  b_judged : Binds K d_judged ["_law_log"] []
  g_judged : mg "_law_judged" = some (.ref a_judged)
  a_free : Addr
  d_free : FuncData
  F_free : Fun K "_law_free" "_law_free" s_free a_free d_free
  b_free : Binds K d_free ["_law_bag_here", "_law_pairs_here"] []
  g_free : mg "_law_free" = some (.ref a_free)
  a_changed : Addr
  d_changed : FuncData
  F_changed : Fun K "_law_changed" "_law_changed" s_changed a_changed d_changed
  b_changed : Binds K d_changed ["_law_bag_here", "_law_log", "_law_pairs_here"] []
  g_changed : mg "_law_changed" = some (.ref a_changed)
  a_law : Addr
  d_law : FuncData
  F_law : Fun K "law" "law" s_law a_law d_law
  b_law : Binds K d_law ["_law_script"] []
  g_law : mg "law" = some (.ref a_law)
  C_Effects : Addr
  g_Effects : mg "Effects" = some (.ref C_Effects)
  cl_Effects : Cls K C_Effects
  na_Effects_held : NoAttr K C_Effects "held"
  mk_Effects : Mk K C_Effects a_Effects_init
  me_Effects_bring : Meth K C_Effects "bring" a_Effects_bring
  me_Effects_armed : Meth K C_Effects "armed" a_Effects_armed
  x_file : Str
  C_ScreenError : Addr
  g_ScreenError : mg "ScreenError" = some (.ref C_ScreenError)
  C_ArmedTwice : Addr
  i_ArmedTwice : Addr
  g_ArmedTwice : mg "ArmedTwice" = some (.ref C_ArmedTwice)
  x_ArmedTwice : ∀ P : Program, PySem.XExc.PF P x_file → PySem.XExc2.ExTxt2 P K mg "ArmedTwice" "armed twice: " C_ArmedTwice i_ArmedTwice
  xc_ArmedTwice : ExcC K C_ArmedTwice
  xf_ArmedTwice : XfC K C_ArmedTwice
  ky_ArmedTwice_ScreenError : PySem.W.kitOne K (.ref C_ArmedTwice) (.ref C_ScreenError) = some true
  kv_ArmedTwice : PySem.W.kitOne K (.ref C_ArmedTwice) (.type "ValueError") = some true
  em_ArmedTwice_ScreenError : PySem.W.exmOne K (.ref C_ArmedTwice) (.ref C_ScreenError) = some true
  em_ArmedTwice_ArmedTwice : PySem.W.exmOne K (.ref C_ArmedTwice) (.ref C_ArmedTwice) = some true
  C_NotArmed : Addr
  i_NotArmed : Addr
  g_NotArmed : mg "NotArmed" = some (.ref C_NotArmed)
  x_NotArmed : ∀ P : Program, PySem.XExc.PF P x_file → PySem.XExc2.ExTxt2 P K mg "NotArmed" "not armed: " C_NotArmed i_NotArmed
  xc_NotArmed : ExcC K C_NotArmed
  xf_NotArmed : XfC K C_NotArmed
  ky_NotArmed_ScreenError : PySem.W.kitOne K (.ref C_NotArmed) (.ref C_ScreenError) = some true
  kv_NotArmed : PySem.W.kitOne K (.ref C_NotArmed) (.type "ValueError") = some true
  em_NotArmed_ScreenError : PySem.W.exmOne K (.ref C_NotArmed) (.ref C_ScreenError) = some true
  em_NotArmed_NotArmed : PySem.W.exmOne K (.ref C_NotArmed) (.ref C_NotArmed) = some true
  C_OldValue : Addr
  i_OldValue : Addr
  g_OldValue : mg "OldValue" = some (.ref C_OldValue)
  x_OldValue : ∀ P : Program, PySem.XExc.PF P x_file → PySem.XExc2.ExTxt2 P K mg "OldValue" "cleaned with another value: " C_OldValue i_OldValue
  xc_OldValue : ExcC K C_OldValue
  xf_OldValue : XfC K C_OldValue
  ky_OldValue_ScreenError : PySem.W.kitOne K (.ref C_OldValue) (.ref C_ScreenError) = some true
  kv_OldValue : PySem.W.kitOne K (.ref C_OldValue) (.type "ValueError") = some true
  em_OldValue_ScreenError : PySem.W.exmOne K (.ref C_OldValue) (.ref C_ScreenError) = some true
  em_OldValue_OldValue : PySem.W.exmOne K (.ref C_OldValue) (.ref C_OldValue) = some true
  ki_ArmedTwice_NotArmed : PySem.W.kitOne K (.ref C_ArmedTwice) (.ref C_NotArmed) = some false
  ki_ArmedTwice_OldValue : PySem.W.kitOne K (.ref C_ArmedTwice) (.ref C_OldValue) = some false
  ki_NotArmed_ArmedTwice : PySem.W.kitOne K (.ref C_NotArmed) (.ref C_ArmedTwice) = some false
  em_NotArmed_ArmedTwice : PySem.W.exmOne K (.ref C_NotArmed) (.ref C_ArmedTwice) = some false
  ki_NotArmed_OldValue : PySem.W.kitOne K (.ref C_NotArmed) (.ref C_OldValue) = some false
  ki_OldValue_ArmedTwice : PySem.W.kitOne K (.ref C_OldValue) (.ref C_ArmedTwice) = some false
  em_OldValue_ArmedTwice : PySem.W.exmOne K (.ref C_OldValue) (.ref C_ArmedTwice) = some false
  ki_OldValue_NotArmed : PySem.W.kitOne K (.ref C_OldValue) (.ref C_NotArmed) = some false
  em_OldValue_NotArmed : PySem.W.exmOne K (.ref C_OldValue) (.ref C_NotArmed) = some false
section
variable {P : Program} {w : World} {K : PySem.W.Frag} {mg : Str → Option Value} {base : Heap}
/-! ### the bag -/
structure Bag (G : Hp) (o : HO) : Prop where
  ex : ∃ (n : Addr) (ns : List Int) (i g t s : Int), o = .lst [.ref n, .int i, .int g, .int t, .int s] ∧ G n = some (.lst (ns.map V.int)) ∧ 0 ≤ i ∧ 0 ≤ g
theorem Bag.same {G G' : Hp} {o : HO} (e : Same G G') (b : Bag G o) : Bag G' o := by
  obtain ⟨n, ns, i, g, t, s, h1, h2, h3⟩ := b.ex
  exact ⟨n, ns, i, g, t, s, h1, e _ _ h2, h3⟩

def spMixed : Sp := fun vs H Q _ => ∃ n t : Int, vs = [.int n, .int t] ∧ ∀ r : Int, 0 ≤ r → r < 2147483587 → Q (.int r) H
theorem ok_mixed (T : Top K mg w) {k : Nat} : FnOk P w K mg base CX0 (k + 1) T.a_mixed T.d_mixed ["_law_number_here", "_law_turn"] spMixed := by
  refine T.F_mixed.ok sc_mixed (fun vs H Q E h => ?_) (fun cdv A outer s H vs Q E hr h => ?_)
  · obtain ⟨n, t, rfl, _⟩ := h
    rfl
  · obtain ⟨n, t, rfl, q⟩ := h
    refine ⟨_, (pss_cons (ps_set (i := 2) sc_mixed.nd rfl (.inl rfl) (pe_op op_modY (pe_callTy cr_int (by rfl) T.m_int (by decide +kernel) (pa_cons (pe_op op_addY (pe_op op_mulY (pe_op op_addY (xv 0) pe_int) pe_int) (pe_op op_mulY (pe_op op_addY (xv 1) pe_int) pe_int)) pa_nil)) pe_int))
      (pss_cons (ps_set (i := 3) sc_mixed.nd rfl (.inl rfl) (pe_op op_modY (pe_callTy cr_int (by rfl) T.m_int (by decide +kernel) (pa_cons (pe_op op_addY (pe_op op_addY (pe_op op_mulY (xv 2) (xv 2)) (pe_op op_mulY (xv 2) pe_int)) (pe_op op_mulY (pe_op op_addY (xv 1) pe_int) pe_int)) pa_nil)) pe_int))
      (pss_one (ps_ret (pe_op op_modY (pe_callTy cr_int (by rfl) T.m_int (by decide +kernel) (pa_cons (pe_op op_addY (pe_op op_addY (pe_op op_divY (xv 3) pe_int) (pe_op op_mulY (xv 3) pe_int)) (xv 1)) pa_nil)) pe_int))))), ?_⟩
    refine ⟨.inr ⟨by decide, by decide⟩, .inr ⟨by decide, by decide⟩, by decide, fun f _ f0 f1 => ?_⟩
    refine ⟨.inl ⟨by omega, by omega⟩, .inr ⟨by decide, by decide⟩, .inr ⟨by decide, by decide⟩, by decide, fun g _ g0 g1 => ?_⟩
    refine ⟨⟨by decide, by decide⟩, fun d _ _ => ⟨.inr ⟨by decide, by decide⟩, by decide, fun r _ r0 r1 => ?_⟩⟩
    exact q r r0 r1

def spPick : Sp := fun vs H Q _ => ∃ (G : Hp) (M : List (Addr × HO)) (b : Addr) (o : HO) (n : Int), vs = [.ref b, .int n] ∧ Sep G ((b, o) :: M) H ∧ Bag G o ∧ 0 < n ∧ n < 1073741824 ∧
  ∀ (r : Int) (o' : HO) (H' : Hp), 0 ≤ r → r < n → Bag G o' → Sep G ((b, o') :: M) H' → Q (.int r) H'
theorem ok_pick (T : Top K mg w) {k : Nat} (G_mixed : FnOk P w K mg base CX0 (k + 1) T.a_mixed T.d_mixed ["_law_number_here", "_law_turn"] spMixed) :
    FnOk P w K mg base CX0 (k + 2) T.a_pick T.d_pick ["_law_bag_here", "_law_many"] spPick := by
  refine T.F_pick.ok sc_pick (fun vs H Q E h => ?_) (fun cdv A outer s H vs Q E hr h => ?_)
  · obtain ⟨G, M, b, o, n, rfl, _⟩ := h
    rfl
  · obtain ⟨G, M, b, o, n, rfl, S, B, n0, n1, q⟩ := h
    obtain ⟨N, ns, i, g, t, z, rfl, hN, i0, g0⟩ := B.ex
    refine ⟨_, (pss_cons (ps_set (i := 2) sc_pick.nd rfl (.inl rfl) (pe_ix (ix_k K) (xv 0) pe_int (fun _ _ => rfl)))
      (pss_cons (ps_asg (pe_op op_addY (xv 2) pe_int) (pg_sub (xv 0) pe_int set_list))
      (xss_cut (xs_if (PW.pt (xw_and (xt_cmp (op_eqLK K hr.u190) (pe_ix (ix_k K) (xv 0) pe_int (fun _ _ => rfl)) pe_int (nomark _)) (pw_and1 (xt_cmp op_ltY (pe_ix (ix_k K) (xv 0) pe_int (fun _ _ => rfl)) (pe_callB (cr_lenK K) (by rfl) T.m_len (by decide +kernel) (pa_cons (pe_ix (ix_k K) (xv 0) pe_int (fun _ _ => rfl)) pa_nil)) (nomark _)))))
      (pss_cons (ps_set (i := 3) sc_pick.nd rfl (.inl rfl) (pe_ix (ix_k K) (pe_ix (ix_k K) (xv 0) pe_int (fun _ _ => rfl)) (pe_ix (ix_k K) (xv 0) pe_int (fun _ _ => rfl)) (fun _ _ => rfl)))
      (pss_cons (ps_asg (pe_op op_addY (pe_ix (ix_k K) (xv 0) pe_int (fun _ _ => rfl)) pe_int) (pg_sub (xv 0) pe_int set_list))
      (pss_cons (xs_if (xt_cmp op_ltY (pe_callB cr_abs (by rfl) T.m_abs (by decide +kernel) (pa_cons (xv 3) pa_nil)) (pe_op op_powY pe_int pe_int) (nomark _))
      (pss_one (ps_ret (pe_op op_modY (pe_callTy cr_int (by rfl) T.m_int (by decide +kernel) (pa_cons (pe_call G_mixed (hr.mono (by omega)) (by rfl) T.g_mixed T.F_mixed.kp T.b_mixed .nil pass0 (pa_cons (pe_op op_addY (pe_op op_mulY pe_int (pe_callB cr_abs (by rfl) T.m_abs (by decide +kernel) (pa_cons (xv 3) pa_nil))) (pe_cmpR op_ltY (xv 3) pe_int (nomark _))) (pa_cons (xv 2) pa_nil))) pa_nil)) (xv 1))))
      pss_nil)
      (pss_one (ps_asg (pe_callB cr_abs (by rfl) T.m_abs (by decide +kernel) (pa_cons (xv 3) pa_nil)) (pg_sub (xv 0) pe_int set_list))))))
      pss_nil)
      (pss_cons (xs_if (xt_cmp (op_eqLK K hr.u190) (pe_ix (ix_k K) (xv 0) pe_int (fun _ _ => rfl)) pe_int (nomark _))
      (pss_one (ps_ret (pe_op op_modY (pe_callTy cr_int (by rfl) T.m_int (by decide +kernel) (pa_cons (pe_call G_mixed (hr.mono (by omega)) (by rfl) T.g_mixed T.F_mixed.kp T.b_mixed .nil pass0 (pa_cons (pe_ix (ix_k K) (xv 0) pe_int (fun _ _ => rfl)) (pa_cons (xv 2) pa_nil))) pa_nil)) (xv 1))))
      pss_nil)
      (pss_cons (ps_set (i := 4) sc_pick.nd rfl (.inl rfl) (pe_op op_modY (pe_callTy cr_int (by rfl) T.m_int (by decide +kernel) (pa_cons (pe_ix (ix_k K) (xv 0) pe_int (fun _ _ => rfl)) pa_nil)) (xv 1)))
      (pss_cons (ps_asg (pe_op op_divY (pe_ix (ix_k K) (xv 0) pe_int (fun _ _ => rfl)) (xv 1)) (pg_sub (xv 0) pe_int set_list))
      (pss_one (ps_ret (xv 4))))))))), ?_⟩
    -- the turn
    refine ⟨_, _, .inl (SqL.of S.hd), rfl, b, _, _, 3, rfl, rfl, S.hd, rfl, ?_⟩
    have S1 := S.set (o' := .lst [.ref N, .int i, .int g, .int (t + 1), .int z])
    have fin : ∀ (j : Int) (g' : Int) (H2 : Hp), 0 ≤ j → 0 ≤ g' → Sep G ((b, .lst [.ref N, .int j, .int g', .int (t + 1), .int z]) :: M) H2 → (g' = 0 → ∀ r : Int, 0 ≤ r → r < n → Q (.int r) H2) ∧
        (∀ (r d : Int), 0 ≤ r → r < n → 0 ≤ d → Q (.int r) (upd H2 b (.lst [.ref N, .int j, .int d, .int (t + 1), .int z]))) := fun j g' H2 j0 h0 S2 =>
      ⟨fun _ r r0 r1 => q r _ _ r0 r1 ⟨N, ns, j, g', t + 1, z, rfl, hN, j0, h0⟩ S2, fun r d r0 r1 d0 => q r _ _ r0 r1 ⟨N, ns, j, d, t + 1, z, rfl, hN, j0, d0⟩ S2.set⟩
    -- the rest, from a bag on
    refine ⟨fun σ H2 => ∃ (y3 y4 : Option V) (j g' : Int), σ = [some (.ref b), some (.int n), some (.int t), y3, y4] ∧ 0 ≤ j ∧ 0 ≤ g' ∧ Sep G ((b, .lst [.ref N, .int j, .int g', .int (t + 1), .int z]) :: M) H2, ?_, fun σ H2 h => ?_⟩
    · have go : ∃ (y3 y4 : Option V) (j g' : Int), ([some (.ref b), some (.int n), some (.int t), none, none] : List (Option V)) = [some (.ref b), some (.int n), some (.int t), y3, y4] ∧ 0 ≤ j ∧ 0 ≤ g' ∧ Sep G ((b, .lst [.ref N, .int j, .int g', .int (t + 1), .int z]) :: M) _ := ⟨_, _, i, g, rfl, i0, g0, S1⟩
      refine ⟨_, _, .inl (SqL.of S1.hd), rfl, fun e => ⟨_, _, .inl (SqL.of S1.hd), rfl, _, _, .inl (SqL.of S1.hd), rfl, _, .inl (SqL.of (S1.st hN)), fun e => ?_, fun e => go⟩, fun e => ⟨ff, fun _ => go⟩⟩
      have hi : i < (ns.map V.int).length := of_decide_eq_true e
      obtain ⟨v, hv, hm⟩ := atI_in i0 hi
      obtain ⟨c, _, rfl⟩ := List.mem_map.mp hm
      refine ⟨_, _, .inl (SqL.of S1.hd), rfl, _, _, .inl (SqL.of S1.hd), rfl, _, _, .inl (SqL.of (S1.st hN)), hv, ?_⟩
      refine ⟨_, _, .inl (SqL.of S1.hd), rfl, b, _, _, 1, rfl, rfl, S1.hd, rfl, ?_⟩
      have S2 := S1.set (o' := .lst [.ref N, .int (i + 1), .int g, .int (t + 1), .int z])
      refine ⟨⟨by decide, by decide, by decide⟩, fun p _ => ⟨fun e => ?_, fun e => ?_⟩⟩
      · refine ⟨.inl ⟨by decide, by decide⟩, _, _, rfl, fun m _ _ => ⟨n0, fun r _ r0 r1 => ?_⟩⟩
        exact q r _ _ r0 r1 ⟨N, ns, i + 1, g, t + 1, z, rfl, hN, by omega, g0⟩ S2
      · refine ⟨b, _, _, 2, rfl, rfl, S2.hd, rfl, ?_⟩
        exact ⟨_, _, i + 1, c.natAbs, rfl, by omega, by omega, S2.set⟩
    · obtain ⟨y3, y4, j, g', rfl, j0, h0, S2⟩ := h
      obtain ⟨f1, f2⟩ := fin j g' H2 j0 h0 S2
      refine ⟨_, _, .inl (SqL.of S2.hd), rfl, fun e => ?_, fun e => ?_⟩
      · refine ⟨_, _, .inl (SqL.of S2.hd), rfl, _, _, rfl, fun m _ _ => ⟨n0, fun r _ r0 r1 => ?_⟩⟩
        exact f1 (of_decide_eq_true e) r r0 r1
      · refine ⟨_, _, .inl (SqL.of S2.hd), rfl, n0, fun r _ r0 r1 => ?_⟩
        refine ⟨_, _, .inl (SqL.of S2.hd), rfl, ⟨n0, n1⟩, fun d _ d0 => ⟨b, _, _, 2, rfl, rfl, S2.hd, rfl, ?_⟩⟩
        exact f2 r d r0 r1 (d0 h0)

def spBag (K : PySem.W.Frag) : Sp := fun vs H Q _ => ∃ (G : Hp) (M : List (Addr × HO)) (a : Addr) (ns : List Int), vs = [.ref a] ∧ Sep G M H ∧ SqL K G a (ns.map V.int) ∧ ns.length ≤ 63 ∧
  ∀ (b : Addr) (o : HO) (G' H' : Hp), Same G G' → Bag G' o → Sep G' ((b, o) :: M) H' → Q (.ref b) H'
theorem ok_bag (T : Top K mg w) {k : Nat} : FnOk P w K mg base CX0 (k + 1) T.a_bag T.d_bag ["_law_script"] (spBag K) := by
  refine T.F_bag.ok sc_bag (fun vs H Q E h => ?_) (fun cdv A outer s H vs Q E hr h => ?_)
  · obtain ⟨G, M, a, ns, rfl, _⟩ := h
    rfl
  · obtain ⟨G, M, a, ns, rfl, S, hA, hl, q⟩ := h
    refine ⟨_, (pss_cons (ps_setLc (i := 2) (own := [("_law_cell", 1)]) (by rfl) sc_bag.nd rfl rfl (sw_true rfl rfl rfl (by decide +kernel)) (pi_listK K (xv 0)) (blkOk_by (N := ["_law_script", "_law_cell", "_law_numbers", "_law_seed", "_law_at"]) (sc := defScope s_bag) (by decide +kernel)) (fun _ _ _ _ _ => (pg_name (i := 1) sc_bag.nd rfl (.inl rfl))) (fun _ _ _ _ _ => pts_nil) (fun _ _ _ _ _ => (pe_callTy cr_int (by rfl) T.m_int (by decide +kernel) (pa_cons (xv 1) pa_nil))))
      (pss_cons (ps_set (i := 3) sc_bag.nd rfl (.inl rfl) (pe_callB (cr_lenK K) (by rfl) T.m_len (by decide +kernel) (pa_cons (xv 2) pa_nil)))
      (pss_cons (ps_for PassesOwn.never rfl (pi_enum (by rfl) T.m_enumerate (pa_cons (pe_slice (sl_listK K) (xv 2) po_none (po_some pe_int)) pa_nil)) (pg_tupK K 2 (pgs_cons (pg_name (i := 4) sc_bag.nd rfl (.inl rfl)) (pgs_cons (pg_name (i := 1) sc_bag.nd rfl (.inl rfl)) pgs_nil)))
      (pss_one (ps_set (i := 3) sc_bag.nd rfl (.inl rfl) (pe_op op_modY (pe_callTy cr_int (by rfl) T.m_int (by decide +kernel) (pa_cons (pe_op op_addY (pe_op op_addY (pe_op op_mulY (xv 3) pe_int) (pe_op op_modY (pe_callTy cr_int (by rfl) T.m_int (by decide +kernel) (pa_cons (pe_callB cr_abs (by rfl) T.m_abs (by decide +kernel) (pa_cons (xv 1) pa_nil)) pa_nil)) pe_int)) (pe_op op_mulY (pe_op op_addY (xv 4) pe_int) (pe_cmpR op_ltY (xv 1) pe_int (nomark _)))) pa_nil)) pe_int))))
      (pss_one (ps_ret (pe_lst (pa_cons (xv 2) (pa_cons pe_int (pa_cons pe_int (pa_cons pe_int (pa_cons (xv 3) pa_nil))))))))))), ?_⟩
    refine ⟨a, rfl, ⟨_, S.l hA⟩, fun L nL => lc_pre (xs := ns.map V.int) (fun pre H' => Sep G ((L, .lst pre) :: M) H') (S.new nL) (fun pre H' p => p.l hA) (fun _ => rfl) (fun pre x post H' e p => ?_) (fun H' S1 => ?_)⟩
    · obtain ⟨c, _, rfl⟩ := List.mem_map.mp (show x ∈ ns.map V.int by rw [e]; simp)
      have hz : pre.length ≤ 63 := by
        have z := congrArg List.length e
        rw [List.length_map, List.length_append] at z
        omega
      exact ⟨_, p.hd, smallL (by omega), p.set⟩
    · -- the seed
      have S2 := S1.frz
      have hN : upd G L (.lst (ns.map V.int)) L = some (.lst (ns.map V.int)) := upd_same
      refine ⟨_, .inl (SqL.of (S2.st hN)), ?_⟩
      refine ⟨63, rfl, L, _, rfl, SqL.of (S2.st hN), fun c nc => ?_⟩
      have S3 := S2.newG (o := .lst (cutV (ns.map V.int) none (some 63))) nc
      have s3 := S2.grow (o := .lst (cutV (ns.map V.int) none (some 63))) nc
      refine ⟨c, _, rfl, SqL.of (S3.st upd_same), for_enum (xs := cutV (ns.map V.int) none (some 63)) (fun pre σ H' => ∃ (y1 y4 : Option V) (z : Int) (G' : Hp), σ = [some (.ref a), y1, some (.ref L), some (.int z), y4] ∧
        Same (upd (upd G L (.lst (ns.map V.int))) c (.lst (cutV (ns.map V.int) none (some 63)))) G' ∧ Sep G' M H') ⟨_, _, _, _, rfl, Same.refl _, S3⟩ (fun pre σ H' h => ?_) (fun pre x post σ H' W e h nW => ?_) (fun σ H' h => ?_)⟩
      · obtain ⟨_, _, _, G', _, s4, S4⟩ := h
        exact SqL.of (S4.st (s4 _ _ upd_same))
      · obtain ⟨y1, y4, z, G', rfl, s4, S4⟩ := h
        have hx : x ∈ ns.map V.int := by
          have hm : x ∈ cutV (ns.map V.int) none (some 63) := by rw [e]; simp
          exact List.mem_of_mem_drop (List.mem_of_mem_take hm)
        obtain ⟨v, _, rfl⟩ := List.mem_map.mp hx
        have S5 := S4.newG (o := .tup [.int (pre.length : Nat), .int v]) nW
        refine ⟨.inr ⟨by decide, by decide⟩, by decide, fun r _ r0 r1 => ⟨by decide, fun u _ u0 u1 => ?_⟩⟩
        exact ⟨_, _, _, _, rfl, s4.trans (S4.grow nW), S5⟩
      · obtain ⟨y1, y4, z, G', rfl, s4, S4⟩ := h
        refine ⟨sz, fun b nb => ?_⟩
        exact q b _ G' _ ((S1.frzS).trans (s3.trans s4)) ⟨L, ns, 0, 0, 0, z, rfl, s4 _ _ (s3 _ _ hN), by decide, by decide⟩ (S4.new nb)

def spMingled (K : PySem.W.Frag) : Sp := fun vs H Q _ => ∃ (G : Hp) (M : List (Addr × HO)) (b : Addr) (o : HO) (l : Addr) (xs : List V), vs = [.ref b, .ref l] ∧ Sep G ((b, o) :: M) H ∧ Bag G o ∧ SqL K G l xs ∧ xs.length < 100000 ∧
  ∀ (p : Addr) (ys : List V) (o' : HO) (G' H' : Hp), Same G G' → G' p = some (.lst ys) → ys.Perm xs → Bag G' o' → Sep G' ((b, o') :: M) H' → Q (.ref p) H'
theorem ok_mingled (T : Top K mg w) {k : Nat} (G_pick : FnOk P w K mg base CX0 k T.a_pick T.d_pick ["_law_bag_here", "_law_many"] spPick) : FnOk P w K mg base CX0 (k + 1) T.a_mingled T.d_mingled ["_law_bag_here", "_law_things"] (spMingled K) := by
  refine T.F_mingled.ok sc_mingled (fun vs H Q E h => ?_) (fun cdv A outer s H vs Q E hr h => ?_)
  · obtain ⟨G, M, b, o, l, xs, rfl, _⟩ := h
    rfl
  · obtain ⟨G, M, b, o, l, xs, rfl, S, B, hl, x1, q⟩ := h
    refine ⟨_, (pss_cons (ps_set (i := 2) sc_mingled.nd rfl (.inl rfl) (pe_callTy (call_listK K) (by rfl) T.m_list (by decide +kernel) (pa_cons (xv 1) pa_nil)))
      (pss_cons (ps_set (i := 3) sc_mingled.nd rfl (.inl rfl) (pe_lst pa_nil))
      (pss_cons (ps_for PassesOwn.never rfl (pi_range1 (by rfl) T.m_range (pa_cons (pe_callB (cr_lenK K) (by rfl) T.m_len (by decide +kernel) (pa_cons (xv 1) pa_nil)) pa_nil)) (pg_name (i := 4) sc_mingled.nd rfl (.inl rfl))
      (pss_one (ps_expr (pe_bmK K PySem.F.plainAttrs_list PySem.F.slot_list_append PySem.F.type_list_append mt_append (xv 3) (pa_cons (pe_bmK K PySem.F.plainAttrs_list PySem.F.slot_list_pop PySem.F.type_list_pop mt_popAt (xv 2) (pa_cons (pe_call G_pick (hr.mono (by omega)) (by rfl) T.g_pick T.F_pick.kp T.b_pick .nil pass0 (pa_cons (xv 0) (pa_cons (pe_callB (cr_lenK K) (by rfl) T.m_len (by decide +kernel) (pa_cons (xv 2) pa_nil)) pa_nil))) pa_nil)) pa_nil)))))
      (pss_one (ps_ret (xv 3)))))), ?_⟩
    refine ⟨l, xs, rfl, .inl (S.l hl), fun L nL => ?_⟩
    have S1 := S.new (o := .lst xs) nL
    refine ⟨sz, fun O nO => ?_⟩
    have S2 := S1.new (o := .lst []) nO
    refine ⟨_, .inl (S2.l hl), _, rfl, by omega, by omega, for_range (lo := 0) (n := (xs.length : Int).toNat) (fun i σ H' => ∃ (y4 : Option V) (o' : HO) (ls os : List V), σ = [some (.ref b), some (.ref l), some (.ref L), some (.ref O), y4] ∧
      Bag G o' ∧ Sep G ((O, .lst os) :: (L, .lst ls) :: (b, o') :: M) H' ∧ ls.length + i = xs.length ∧ os.length = i ∧ (os ++ ls).Perm xs) ?_ (fun i σ H' hi h => ?_) (fun σ H' h => ?_)⟩
    · exact ⟨_, o, xs, [], rfl, B, S2, by omega, rfl, List.Perm.refl _⟩
    · obtain ⟨y4, o', ls, os, rfl, B', S3, e1, e2, pm⟩ := h
      have S4 := (S3.sw).perm (List.Perm.cons _ (List.Perm.swap _ _ _))
      have S5 := S4.sw
      -- out.append(left.pop(pick(bag, len(left))))
      refine ⟨.inl ⟨rfl, _, SqL.of S3.hd⟩, .inl ⟨rfl, _, SqL.of S4.hd⟩, _, .inl (SqL.of S4.hd), G, _, b, o', _, rfl, S5, B', by omega, by omega, fun r o2 H2 r0 r1 B2 S6 => ?_⟩
      have S7 := S6.sw
      obtain ⟨v, hv, hm⟩ := atI_in r0 r1
      have S8 := S7.set (o' := .lst (ls.eraseIdx r.toNat))
      have S9 := (S8.perm (List.Perm.cons _ (List.Perm.swap _ _ _))).sw
      refine ⟨L, ls, r, r.toNat, v, rfl, rfl, S7.hd, by omega, by omega, seqIdx r0 r1, atN r0 hv, O, os, v, rfl, rfl, S9.hd, smallL (by omega), ?_⟩
      refine ⟨_, o2, ls.eraseIdx r.toNat, os ++ [v], rfl, B2, S9.set, ?_, ?_, ?_⟩
      · rw [List.length_eraseIdx_of_lt (by omega)]
        omega
      · rw [List.length_append, e2]
        rfl
      · refine List.Perm.trans ?_ pm
        rw [List.append_assoc, List.singleton_append]
        refine List.Perm.append_left _ ?_
        exact perm_erase (atN r0 hv)
    · obtain ⟨y4, o', ls, os, rfl, B', S3, e1, e2, pm⟩ := h
      have S4 := ((S3.frz).drop)
      exact q O os o' _ _ S3.frzS upd_same (by
        have e3 : ls = [] := List.eq_nil_of_length_eq_zero (by omega)
        rw [e3, List.append_nil] at pm
        exact pm) (B'.same S3.frzS) S4

def spNumber : Sp := fun vs H Q _ => ∃ i : Int, vs = [.int i] ∧ Q (.bl true) H
theorem ok_number (T : Top K mg w) {k : Nat} : FnOk P w K mg base CX0 (k + 1) T.a_number T.d_number ["_law_thing"] spNumber := by
  refine T.F_number.ok sc_number (fun vs H Q E h => ?_) (fun cdv A outer s H vs Q E hr h => ?_)
  · obtain ⟨i, rfl, _⟩ := h
    rfl
  · obtain ⟨i, rfl, q⟩ := h
    refine ⟨_, (pss_one (ps_ret (xe_and (pe_callB (call_isK K) (by rfl) T.m_isinstance (by decide +kernel) (pa_cons (xv 0) (pa_cons (pe_bltn (v := .ty "int") (by rfl) T.m_int (by decide +kernel) rfl) pa_nil))) (pe_one (xe_not (pe_callB (call_isK K) (by rfl) T.m_isinstance (by decide +kernel) (pa_cons (xv 0) (pa_cons (pe_bltn (v := .ty "bool") (by rfl) T.m_bool (by decide +kernel) rfl) pa_nil)))))))), ?_⟩
    refine ⟨_, _, _, _, true, rfl, .ty _, .base (.int _), kit_ty (by decide +kernel), fun _ => ⟨_, _, _, _, false, rfl, .ty _, .base (.int _), kit_ty (by decide +kernel), ?_⟩, fun e => nomatch e⟩
    exact q

end
end K41
set_option Elab.async false
set_option linter.all false
set_option maxRecDepth 100000
set_option maxHeartbeats 4000000
namespace K41
open PySem PySem.Spec PyProof.Rows L2 XL
section
variable {P : Program} {w : World} {K : PySem.W.Frag} {mg : Str → Option Value} {base : Heap}
/-! ### data of a bounded size -/
theorem showAll : ∀ {xs : List PyData}, (∀ x ∈ xs, x.showable = true) → PyData.showableAll xs = true
  | [], _ => by simp only [PyData.showableAll]
  | x :: xs, h => by
    simp only [PyData.showableAll, h x (by simp), showAll (xs := xs) fun y hy => h y (List.mem_cons_of_mem _ hy), Bool.and_self]
theorem layAll : ∀ {xs : List PyData}, (∀ x ∈ xs, x.canLay0 = true) → PyData.canLayAll0 xs = true
  | [], _ => by simp only [PyData.canLayAll0]
  | x :: xs, h => by
    simp only [PyData.canLayAll0, h x (by simp), layAll (xs := xs) fun y hy => h y (List.mem_cons_of_mem _ hy), Bool.and_self]
theorem depthAll_le {n : Nat} : ∀ {xs : List PyData}, (∀ x ∈ xs, x.depth ≤ n) → PyData.depthAll xs ≤ n
  | [], _ => by simp only [PyData.depthAll]; omega
  | x :: xs, h => by
    have h1 := h x (by simp)
    have h2 := depthAll_le (xs := xs) fun y hy => h y (List.mem_cons_of_mem _ hy)
    simp only [PyData.depthAll]
    omega
theorem shortAll {n : Nat} : ∀ {xs : List PyData}, (∀ x ∈ xs, x.leavesShort n = true) → PyData.leavesShortAll n xs = true
  | [], _ => by simp only [PyData.leavesShortAll]
  | x :: xs, h => by
    simp only [PyData.leavesShortAll, h x (by simp), shortAll (xs := xs) fun y hy => h y (List.mem_cons_of_mem _ hy), Bool.and_self]
theorem weightAll_le {n : Nat} : ∀ {xs : List PyData}, (∀ x ∈ xs, x.weight ≤ n) → PyData.weightAll xs ≤ xs.length * (n + 1)
  | [], _ => by simp only [PyData.weightAll]; omega
  | x :: xs, h => by
    have h1 := h x (by simp)
    have h2 := weightAll_le (xs := xs) fun y hy => h y (List.mem_cons_of_mem _ hy)
    simp only [PyData.weightAll, List.length_cons, Nat.add_mul]
    omega
structure Fit (w dp : Nat) (d : PyData) : Prop where
  cl : d.canLay0 = true
  sh : d.showable = true
  ls : d.leavesShort 8 = true
  dp : d.depth ≤ dp
  wt : d.weight ≤ w
theorem Fit.mono {w dp w' dp' : Nat} {d : PyData} (h : Fit w dp d) (h1 : w ≤ w') (h2 : dp ≤ dp') : Fit w' dp' d := ⟨h.cl, h.sh, h.ls, Nat.le_trans h.dp h2, Nat.le_trans h.wt h1⟩
theorem Fit.shaped {w dp : Nat} {d : PyData} (h : Fit w dp d) (h2 : dp ≤ 64) : SeqAt.shaped d = true := by
  unfold SeqAt.shaped
  rw [h.cl, decide_eq_true (Nat.le_trans h.dp h2)]
  rfl
theorem Fit.self {w dp : Nat} {d : PyData} (h : Fit w dp d) : PyData.eqv d d = true := SeqAt.eqv_refl d h.cl
structure Shw (d : PyData) : Prop where
  sh : d.showable = true
  nd : d.hasDict = false
  dp : d.depth ≤ 64
  ln : d.shown.length ≤ sizeLine
theorem Fit.shw {w dp : Nat} {d : PyData} (h : Fit w dp d) (h1 : w ≤ 1048576) (h2 : dp ≤ 64) : Shw d :=
  ⟨h.sh, PyData.hasDict_of_canLay d h.cl, Nat.le_trans h.dp h2, PyData.shown_fits (B := 8) (by decide) (by decide) h.ls (Nat.le_trans h.wt (Nat.le_trans h1 (by decide)))⟩
theorem Fit.tup {w dp : Nat} {ds : List PyData} (hw : PyData.weightAll ds ≤ w) (h : ∀ d ∈ ds, ∃ w', Fit w' dp d) : Fit w (dp + 1) (.tuple ds) := by
  have dl := depthAll_le (n := dp) fun d hd => (h d hd).choose_spec.dp
  refine ⟨?_, ?_, ?_, ?_, ?_⟩
  · simp only [PyData.canLay0]; exact layAll fun d hd => (h d hd).choose_spec.cl
  · simp only [PyData.showable]; exact showAll fun d hd => (h d hd).choose_spec.sh
  · simp only [PyData.leavesShort]; exact shortAll fun d hd => (h d hd).choose_spec.ls
  · simp only [PyData.depth]; omega
  · simp only [PyData.weight]; exact hw
theorem Fit.lst {w dp : Nat} {ds : List PyData} (hw : PyData.weightAll ds ≤ w) (h : ∀ d ∈ ds, ∃ w', Fit w' dp d) : Fit w (dp + 1) (.list ds) := by
  have dl := depthAll_le (n := dp) fun d hd => (h d hd).choose_spec.dp
  refine ⟨?_, ?_, ?_, ?_, ?_⟩
  · simp only [PyData.canLay0]; exact layAll fun d hd => (h d hd).choose_spec.cl
  · simp only [PyData.showable]; exact showAll fun d hd => (h d hd).choose_spec.sh
  · simp only [PyData.leavesShort]; exact shortAll fun d hd => (h d hd).choose_spec.ls
  · simp only [PyData.depth]; omega
  · simp only [PyData.weight]; exact hw
theorem Fit.tups {w dp : Nat} {ds : List PyData} (h : ∀ d ∈ ds, Fit w dp d) : Fit (ds.length * (w + 1)) (dp + 1) (.tuple ds) := .tup (weightAll_le fun d hd => (h d hd).wt) fun d hd => ⟨w, h d hd⟩
theorem Fit.lsts {w dp : Nat} {ds : List PyData} (h : ∀ d ∈ ds, Fit w dp d) : Fit (ds.length * (w + 1)) (dp + 1) (.list ds) := .lst (weightAll_le fun d hd => (h d hd).wt) fun d hd => ⟨w, h d hd⟩
theorem Fit.str {z : Str} {w : Nat} (h : ∀ c ∈ z.cps.toList, c < 1114112) (l : z.length ≤ w) : Fit w 0 (.str z) := by
  refine ⟨?_, by simp only [PyData.showable], ?_, by simp only [PyData.depth]; omega, ?_⟩
  · simp only [PyData.canLay0]
    unfold PyData.strOk
    rw [← Array.all_toList, List.all_eq_true]
    exact fun c hc => decide_eq_true (h c hc)
  · simp only [PyData.leavesShort]
    rw [List.all_eq_true]
    exact fun c hc => decide_eq_true (Nat.lt_trans (h c hc) (by decide))
  · simp only [PyData.weight]
    exact l
theorem LS_low : ∀ c ∈ LS.cps.toList, c < 1114112 := by decide +kernel
theorem Fit.name {z : Str} {a b : Nat} (h : Lt a b z) : Fit b 0 (.str z) := .str (fun c hc => LS_low c (h.ch c hc)) h.hi
theorem dig_short : ∀ n : Nat, n < 10 → (PyData.shown (.int (n : Nat))).length ≤ 8 ∧ PyData.weight (.int (n : Nat)) ≤ 4 ∧ PyData.showable (.int (n : Nat)) = true := by decide +kernel
theorem Fit.digit {n : Int} (h0 : 0 ≤ n) (h1 : n ≤ 9) : Fit 4 0 (.int n) := by
  obtain ⟨k, rfl⟩ := Int.eq_ofNat_of_zero_le h0
  have z := dig_short k (by omega)
  refine ⟨by simp only [PyData.canLay0], z.2.2, ?_, by simp only [PyData.depth]; omega, z.2.1⟩
  simp only [PyData.leavesShort]
  exact decide_eq_true z.1
/-! ### data at a value -/
theorem dp_tup {K : PySem.W.Frag} {G : Hp} {v : V} {ds : List PyData} (h : Dp K G v (.tuple ds)) : ∃ a xs, v = .ref a ∧ SqT K G a xs ∧ DpAll K G xs ds := by
  cases h with
  | tup h1 h2 => exact ⟨_, _, rfl, h1, h2⟩
theorem dpa_cons {K : PySem.W.Frag} {G : Hp} {xs : List V} {d : PyData} {ds : List PyData} (h : DpAll K G xs (d :: ds)) : ∃ x r, xs = x :: r ∧ Dp K G x d ∧ DpAll K G r ds := by
  cases h with
  | cons h1 h2 => exact ⟨_, _, rfl, h1, h2⟩
theorem dpa_nil {K : PySem.W.Frag} {G : Hp} {xs : List V} (h : DpAll K G xs []) : xs = [] := by
  cases h
  rfl
theorem dp_str {K : PySem.W.Frag} {G : Hp} {v : V} {z : Str} (h : Dp K G v (.str z)) : v = .str z := by
  cases h
  rfl
theorem dpa_len {K : PySem.W.Frag} {G : Hp} : ∀ {xs : List V} {ds : List PyData}, DpAll K G xs ds → xs.length = ds.length
  | _, _, .nil => rfl
  | _, _, .cons _ h => congrArg (· + 1) (dpa_len h)
theorem dpa_get {K : PySem.W.Frag} {G : Hp} : ∀ {xs : List V} {ds : List PyData} {i : Nat} {x : V}, DpAll K G xs ds → xs[i]? = some x → ∃ d, ds[i]? = some d ∧ Dp K G x d
  | _, _, _, _, .nil, h => by simp at h
  | _, _, 0, _, .cons h1 _, h => by
    simp at h
    subst h
    exact ⟨_, rfl, h1⟩
  | _, _, i + 1, _, .cons _ h2, h => by
    rw [List.getElem?_cons_succ] at h
    obtain ⟨d, e1, e2⟩ := dpa_get h2 h
    exact ⟨d, by rw [List.getElem?_cons_succ]; exact e1, e2⟩
theorem dpa_app {K : PySem.W.Frag} {G : Hp} : ∀ {xs ys : List V} {ds es : List PyData}, DpAll K G xs ds → DpAll K G ys es → DpAll K G (xs ++ ys) (ds ++ es)
  | _, _, _, _, .nil, h => h
  | _, _, _, _, .cons h1 h2, h => .cons h1 (dpa_app h2 h)
theorem dpa_take {K : PySem.W.Frag} {G : Hp} : ∀ {xs : List V} {ds : List PyData} (n : Nat), DpAll K G xs ds → DpAll K G (xs.take n) (ds.take n)
  | _, _, 0, _ => .nil
  | _, _, _ + 1, .nil => .nil
  | _, _, n + 1, .cons h1 h2 => .cons h1 (dpa_take n h2)
theorem dpa_drop {K : PySem.W.Frag} {G : Hp} : ∀ {xs : List V} {ds : List PyData} (n : Nat), DpAll K G xs ds → DpAll K G (xs.drop n) (ds.drop n)
  | _, _, 0, h => h
  | _, _, _ + 1, .nil => .nil
  | _, _, n + 1, .cons _ h2 => dpa_drop n h2
theorem dpa_one {K : PySem.W.Frag} {G : Hp} {v : V} {d : PyData} (h : Dp K G v d) : DpAll K G [v] [d] := .cons h .nil
theorem Sep.mk {G H : Hp} {M : List (Addr × HO)} {p : Addr} {o : HO} (S : Sep G M H) (h : H p = none) : ∃ G', Same G G' ∧ Sep G' M (upd H p o) ∧ G' p = some o := ⟨_, S.grow h, S.newG h, upd_same⟩

/-! ### rows of numbers as data -/
theorem dp_intsT {K : PySem.W.Frag} {G : Hp} : ∀ ns : List Int, DpAll K G (ns.map V.int) (ns.map PyData.int)
  | [] => .nil
  | n :: ns => .cons (.int n) (dp_intsT ns)
def itD (ns : List Int) : PyData := .tuple (ns.map PyData.int)
theorem dp_it {K : PySem.W.Frag} {G : Hp} {a : Addr} {ns : List Int} (h : G a = some (.tup (ns.map V.int))) : Dp K G (.ref a) (itD ns) := .tup (SqT.of h) (dp_intsT ns)
theorem lay_it (ns : List Int) : (itD ns).canLay0 = true := by
  simp only [itD, PyData.canLay0]
  exact layAll fun d hd => by
    obtain ⟨n, _, rfl⟩ := List.mem_map.mp hd
    rfl
theorem dep_it (ns : List Int) : (itD ns).depth ≤ 190 := by
  have h : PyData.depthAll (ns.map PyData.int) ≤ 2 := depthAll_le fun d hd => by
    obtain ⟨n, _, rfl⟩ := List.mem_map.mp hd
    simp only [PyData.depth]
    omega
  simp only [itD, PyData.depth]
  omega
theorem eqv_ints : ∀ a b : List Int, PyData.eqvAll (a.map PyData.int) (b.map PyData.int) = decide (a = b)
  | [], [] => by simp [PyData.eqvAll]
  | [], _ :: _ => by simp [PyData.eqvAll]
  | _ :: _, [] => by simp [PyData.eqvAll]
  | x :: a, y :: b => by
    have ih := eqv_ints a b
    have e : PyData.eqv (.int x) (.int y) = decide (x = y) := by
      by_cases h : x = y <;> simp [PyData.eqv, h]
    simp only [List.map_cons, PyData.eqvAll, ih, e]
    simp
theorem eqv_it (a b : List Int) : PyData.eqv (itD a) (itD b) = decide (a = b) := by
  simp only [itD, PyData.eqv, eqv_ints]

/-! ### owners, rows of a log, what is armed -/
abbrev Own := List (List Int)
def owD (o : Own) : PyData := .tuple (o.map itD)
def kyD (o : Own) (z : Str) : PyData := .tuple [owD o, .str z]
structure OwOk (o : Own) : Prop where
  len : o.length ≤ 5
  st : ∀ s ∈ o, s.length ≤ 3 ∧ ∀ n ∈ s, 0 ≤ n ∧ n < 16
theorem nrm_ints : ∀ ns : List Int, nrms (ns.map PyData.int) = ns.map PyData.int
  | [] => rfl
  | n :: ns => by simp only [List.map_cons, nrms, nrm, nrm_ints ns]
theorem nrm_it (ns : List Int) : nrm (itD ns) = itD ns := by simp only [itD, nrm, nrm_ints]
theorem nrm_its : ∀ o : Own, nrms (o.map itD) = o.map itD
  | [] => rfl
  | s :: o => by simp only [List.map_cons, nrms, nrm_it, nrm_its o]
theorem nrm_ow (o : Own) : nrm (owD o) = owD o := by simp only [owD, nrm, nrm_its]
theorem nrm_ky (o : Own) (z : Str) : nrm (kyD o z) = kyD o z := by simp only [kyD, nrm, nrms, nrm_ow]
theorem key_ints : ∀ ns : List Int, keyDs (ns.map PyData.int) = true
  | [] => rfl
  | n :: ns => by simp only [List.map_cons, keyDs, keyD, key_ints ns, Bool.and_self]
theorem key_it (ns : List Int) : keyD (itD ns) = true := by simp only [itD, keyD, key_ints]
theorem key_its : ∀ o : Own, keyDs (o.map itD) = true
  | [] => rfl
  | s :: o => by simp only [List.map_cons, keyDs, key_it, key_its o, Bool.and_self]
theorem key_owd (o : Own) : keyD (owD o) = true := by simp only [owD, keyD, key_its]
theorem key_str {a b : Nat} {z : Str} (lt : Lt a b z) : keyD (.str z) = true := (Fit.name lt).cl
theorem key_ky {o : Own} {z : Str} (lt : Lt 1 8 z) : keyD (kyD o z) = true := by
  simp only [kyD, keyD, keyDs, key_owd, Bool.true_and, Bool.and_true]
  exact key_str lt
theorem dep_int : ∀ ns : List Int, PyData.depthAll (ns.map PyData.int) = 0
  | [] => rfl
  | n :: ns => by simp only [List.map_cons, PyData.depthAll, PyData.depth, dep_int ns, Nat.max_self]
theorem dep_it1 (ns : List Int) : (itD ns).depth = 1 := by simp only [itD, PyData.depth, dep_int]
theorem dep_ow (o : Own) : (owD o).depth ≤ 2 := by
  have h := depthAll_le (n := 1) (xs := o.map itD) fun d hd => by
    obtain ⟨s, _, rfl⟩ := List.mem_map.mp hd
    rw [dep_it1]
    exact Nat.le_refl _
  simp only [owD, PyData.depth]
  omega
theorem dep_ky (o : Own) (z : Str) : (kyD o z).depth ≤ 3 := by
  have h := dep_ow o
  simp only [kyD, PyData.depth, PyData.depthAll]
  omega
theorem map_inj {α β : Type} {f : α → β} (hf : ∀ {x y}, f x = f y → x = y) : ∀ {xs ys : List α}, xs.map f = ys.map f → xs = ys
  | [], [], _ => rfl
  | [], _ :: _, h => by simp at h
  | _ :: _, [], h => by simp at h
  | x :: xs, y :: ys, h => by
    rw [List.map_cons, List.map_cons, List.cons.injEq] at h
    rw [hf h.1, map_inj hf h.2]
theorem it_inj {a b : List Int} (h : itD a = itD b) : a = b := by
  simp only [itD, PyData.tuple.injEq] at h
  exact map_inj (fun e => by simpa using e) h
theorem ow_inj {a b : Own} (h : owD a = owD b) : a = b := by
  simp only [owD, PyData.tuple.injEq] at h
  exact map_inj (fun e => it_inj e) h
theorem ky_inj {a b : Own} {y z : Str} (h : kyD a y = kyD b z) : a = b ∧ y = z := by
  simp only [kyD, PyData.tuple.injEq, List.cons.injEq, PyData.str.injEq, and_true] at h
  exact ⟨ow_inj h.1, h.2⟩
theorem ky_iff {a b : Own} {y z : Str} : kyD a y = kyD b z ↔ a = b ∧ y = z := ⟨ky_inj, fun ⟨h1, h2⟩ => by rw [h1, h2]⟩
theorem sl_tupK {X : Cx} (K : PySem.W.Frag) (h : X.K = K := by rfl) : SlR X (rSlT K) := h ▸ sl_tup
theorem eqv_ow (a b : Own) : PyData.eqv (owD a) (owD b) = decide (a = b) := by
  rw [eqv_nrm _ _ (key_owd a) (key_owd b), nrm_ow, nrm_ow]
  exact decide_eq_decide.mpr ⟨ow_inj, fun h => by rw [h]⟩
theorem snoc_ind {α : Type} {p : List α → Prop} (h0 : p []) (hs : ∀ xs x, p xs → p (xs ++ [x])) (xs : List α) : p xs := by
  have h : ∀ ys : List α, p ys.reverse := fun ys => by
    induction ys with
    | nil => exact h0
    | cons y ys ih => rw [List.reverse_cons]; exact hs _ _ ih
  have z := h xs.reverse
  rwa [List.reverse_reverse] at z
def dwd (b : Bool) : Str := if b then "arm" else "clean"
theorem dwd_t : decide (dwd true = (Str.ofString "arm")) = true := by decide +kernel
theorem dwd_f : decide (dwd false = (Str.ofString "arm")) = false := by decide +kernel
/-- a row of a log -/
structure Rw where
  arm : Bool
  ow : Own
  wd : Str
  val : Int
abbrev Ar := Own × Str × Int
inductive Wr | twice | none | old
def atA (a : List Ar) (o : Own) (z : Str) : Option Int := (a.find? fun x => decide (x.1 = o ∧ x.2.1 = z)).map (·.2.2)
def delA (a : List Ar) (o : Own) (z : Str) : List Ar := a.filter fun x => !decide (x.1 = o ∧ x.2.1 = z)
def stp (a : List Ar) (r : Rw) : Except Wr (List Ar) :=
  match r.arm, atA a r.ow r.wd with
  | true, some _ => .error .twice
  | true, .none => .ok (a ++ [(r.ow, r.wd, r.val)])
  | false, .none => .error .none
  | false, some v => if v = r.val then .ok (delA a r.ow r.wd) else .error .old
def okO : Except Wr (List Ar) → Option (List Ar)
  | .ok a => some a
  | .error _ => none
def snd (rs : List Rw) : Option (List Ar) := rs.foldl (fun a r => a.bind fun a => okO (stp a r)) (some [])
theorem snd_snoc (rs : List Rw) (r : Rw) : snd (rs ++ [r]) = (snd rs).bind fun a => okO (stp a r) := by simp only [snd, List.foldl_append, List.foldl_cons, List.foldl_nil]
theorem fold_none (rs : List Rw) : rs.foldl (fun a r => a.bind fun a => okO (stp a r)) none = none := by
  induction rs with
  | nil => rfl
  | cons r rs ih => rw [List.foldl_cons]; exact ih
theorem snd_app {pre post : List Rw} {a : List Ar} (h : snd (pre ++ post) = some a) : ∃ b, snd pre = some b := by
  unfold snd at h ⊢
  rw [List.foldl_append] at h
  match e : pre.foldl (fun a r => a.bind fun a => okO (stp a r)) (some []) with
  | some b => exact ⟨b, e⟩
  | .none => rw [e, fold_none] at h; cases h
theorem snd_at {pre post : List Rw} {r : Rw} {a b : List Ar} (h : snd (pre ++ r :: post) = some a) (hb : snd pre = some b) : ∃ c, stp b r = .ok c := by
  rw [show pre ++ r :: post = (pre ++ [r]) ++ post by simp] at h
  obtain ⟨c, hc⟩ := snd_app h
  rw [snd_snoc, hb] at hc
  change okO (stp b r) = some c at hc
  match e : stp b r with
  | .ok c => exact ⟨c, rfl⟩
  | .error _ => rw [e] at hc; cases hc
theorem stp_pairs {a b : List Ar} {r : Rw} (h : stp a r = .ok b) (u : (a.map fun x => (x.1, x.2.1)).Nodup) : (b.map fun x => (x.1, x.2.1)).Nodup := by
  unfold stp at h
  split at h
  · cases h
  · rename_i e2
    cases h
    rw [List.map_append, List.nodup_append]
    refine ⟨u, by simp, fun x hx y hy exy => ?_⟩
    subst exy
    obtain ⟨z, hz, rfl⟩ := List.mem_map.mp hx
    simp only [List.map_cons, List.map_nil, List.mem_singleton, Prod.mk.injEq] at hy
    unfold atA at e2
    rw [Option.map_eq_none_iff, List.find?_eq_none] at e2
    exact e2 z hz (by simpa using hy)
  · cases h
  · split at h
    · cases h
      exact (List.filter_sublist.map _).nodup u
    · cases h
theorem snd_pairs {rs : List Rw} : ∀ {a : List Ar}, snd rs = some a → (a.map fun x => (x.1, x.2.1)).Nodup := by
  refine snoc_ind (p := fun rs => ∀ {a : List Ar}, snd rs = some a → (a.map fun x => (x.1, x.2.1)).Nodup) (fun {a} h => by cases h; exact List.nodup_nil) (fun rs r ih => ?_) rs
  · intro a h
    rw [snd_snoc] at h
    match e : snd rs with
    | .none => rw [e] at h; cases h
    | some b =>
      rw [e] at h
      change okO (stp b r) = some a at h
      match e2 : stp b r with
      | .error _ => rw [e2] at h; cases h
      | .ok c =>
        rw [e2] at h
        cases h
        exact stp_pairs e2 (ih e)
theorem stp_len {a b : List Ar} {r : Rw} (h : stp a r = .ok b) : b.length ≤ a.length + 1 := by
  unfold stp at h
  split at h
  · cases h
  · cases h; simp
  · cases h
  · split at h
    · cases h
      exact Nat.le_succ_of_le (List.length_filter_le _ _)
    · cases h
theorem snd_len {rs : List Rw} : ∀ {a : List Ar}, snd rs = some a → a.length ≤ rs.length := by
  refine snoc_ind (p := fun rs => ∀ {a : List Ar}, snd rs = some a → a.length ≤ rs.length) (fun {a} h => by cases h; exact Nat.le_refl _) (fun rs r ih => ?_) rs
  · intro a h
    rw [snd_snoc] at h
    match e : snd rs with
    | .none => rw [e] at h; cases h
    | some b =>
      rw [e] at h
      change okO (stp b r) = some a at h
      match e2 : stp b r with
      | .error _ => rw [e2] at h; cases h
      | .ok c =>
        rw [e2] at h
        cases h
        have h1 := stp_len e2
        have h2 := ih e
        rw [List.length_append]
        show _ ≤ rs.length + 1
        omega
theorem stp_mem {a b : List Ar} {r : Rw} (h : stp a r = .ok b) {x : Ar} (hx : x ∈ b) : x ∈ a ∨ (r.arm = true ∧ x = (r.ow, r.wd, r.val)) := by
  unfold stp at h
  split at h
  · cases h
  · rename_i e1 _
    cases h
    rcases List.mem_append.mp hx with hx | hx
    · exact .inl hx
    · exact .inr ⟨e1, List.mem_singleton.mp hx⟩
  · cases h
  · split at h
    · cases h
      exact .inl (List.mem_filter.mp hx).1
    · cases h
theorem snd_mem {rs : List Rw} : ∀ {a : List Ar}, snd rs = some a → ∀ x ∈ a, ∃ r ∈ rs, r.arm = true ∧ x = (r.ow, r.wd, r.val) := by
  refine snoc_ind (p := fun rs => ∀ {a : List Ar}, snd rs = some a → ∀ x ∈ a, ∃ r ∈ rs, r.arm = true ∧ x = (r.ow, r.wd, r.val)) (fun {a} h => by cases h; exact fun _ h => nomatch h) (fun rs r ih => ?_) rs
  · intro a h x hx
    rw [snd_snoc] at h
    match e : snd rs with
    | .none => rw [e] at h; cases h
    | some b =>
      rw [e] at h
      change okO (stp b r) = some a at h
      match e2 : stp b r with
      | .error _ => rw [e2] at h; cases h
      | .ok c =>
        rw [e2] at h
        cases h
        rcases stp_mem e2 hx with z | z
        · obtain ⟨r', h1, h2⟩ := ih e x z
          exact ⟨r', List.mem_append_left _ h1, h2⟩
        · exact ⟨r, by simp, z⟩
/-- the first wrong row -/
structure Bad (rs : List Rw) (pre : List Rw) (r : Rw) (a : List Ar) (b : Wr) : Prop where
  at' : ∃ post, rs = pre ++ r :: post
  ar : snd pre = some a
  er : stp a r = .error b
theorem Bad.not {rs pre : List Rw} {r : Rw} {a c : List Ar} {b : Wr} (h : Bad rs pre r a b) (k : snd rs = some c) : False := by
  obtain ⟨post, rfl⟩ := h.at'
  obtain ⟨d, hd⟩ := snd_at k h.ar
  rw [h.er] at hd
  cases hd
theorem Bad.le {rs pre pre' : List Rw} {r r' : Rw} {a a' : List Ar} {b b' : Wr} (h : Bad rs pre r a b) (h' : Bad rs pre' r' a' b') : pre'.length ≤ pre.length := by
  obtain ⟨post, e⟩ := h.at'
  obtain ⟨post', e'⟩ := h'.at'
  by_cases hl : pre'.length ≤ pre.length
  · exact hl
  · exfalso
    have z : pre' = rs.take pre'.length := by rw [e', List.take_left']; rfl
    have e2 : ∃ q, pre' = pre ++ r :: q := by
      obtain ⟨m, hm⟩ : ∃ m, pre'.length = pre.length + (m + 1) := ⟨pre'.length - pre.length - 1, by omega⟩
      rw [hm, e, List.take_length_add_append, List.take_succ_cons] at z
      exact ⟨_, z⟩
    obtain ⟨q, e2⟩ := e2
    have hs := h'.ar
    rw [e2] at hs
    obtain ⟨d, hd⟩ := snd_at hs h.ar
    rw [h.er] at hd
    cases hd
theorem Bad.one {rs pre pre' : List Rw} {r r' : Rw} {a a' : List Ar} {b b' : Wr} (h : Bad rs pre r a b) (h' : Bad rs pre' r' a' b') : pre' = pre ∧ r' = r ∧ a' = a ∧ b' = b := by
  have el : pre'.length = pre.length := Nat.le_antisymm (h.le h') (h'.le h)
  obtain ⟨post, e⟩ := h.at'
  obtain ⟨post', e'⟩ := h'.at'
  rw [e] at e'
  obtain ⟨e1, e2⟩ := List.append_inj e' el.symm
  cases e2
  subst e1
  have z := h.ar.symm.trans h'.ar
  cases z
  have y := h.er.symm.trans h'.er
  cases y
  exact ⟨rfl, rfl, rfl, rfl⟩
theorem Bad.or : ∀ rs : List Rw, (∃ a, snd rs = some a) ∨ ∃ pre r a b, Bad rs pre r a b := by
  refine snoc_ind (.inl ⟨[], rfl⟩) fun rs r ih => ?_
  · rcases ih with ⟨a, h⟩ | ⟨pre, r', a, b, h⟩
    · match e : stp a r with
      | .ok c => exact .inl ⟨c, by rw [snd_snoc, h]; change okO (stp a r) = some c; rw [e]; rfl⟩
      | .error b => exact .inr ⟨rs, r, a, b, ⟨[], rfl⟩, h, e⟩
    · obtain ⟨post, e⟩ := h.at'
      exact .inr ⟨pre, r', a, b, ⟨post ++ [r], by rw [e]; simp⟩, h.ar, h.er⟩
/-- the armed ones as a table -/
def kvA (a : List Ar) : List (PyData × V) := a.map fun x => (kyD x.1 x.2.1, .int x.2.2)
theorem kv_len (a : List Ar) : (kvA a).length = a.length := List.length_map _
theorem kv_at (o : Own) (z : Str) : ∀ a : List Ar, valV (kvA a) (kyD o z) = (atA a o z).map V.int
  | [] => rfl
  | x :: a => by
    have ih := kv_at o z a
    by_cases h : x.1 = o ∧ x.2.1 = z
    · rw [show kvA (x :: a) = (kyD x.1 x.2.1, .int x.2.2) :: kvA a from rfl, valV_pos (ky_iff.mpr h)]
      simp [atA, List.find?_cons, h]
    · rw [show kvA (x :: a) = (kyD x.1 x.2.1, .int x.2.2) :: kvA a from rfl, valV_neg (fun e => h (ky_iff.mp e)), ih]
      have e : (decide (x.1 = o ∧ x.2.1 = z)) = false := decide_eq_false h
      simp only [atA, List.find?_cons, e]
theorem kv_new {a : List Ar} {o : Own} {z : Str} (v : Int) (h : atA a o z = none) : putK (kvA a) (kyD o z) (.int v) = kvA (a ++ [(o, z, v)]) := by
  rw [putK_new _ (by rw [kv_at, h]; rfl), kvA, kvA, List.map_append]
  rfl
theorem kv_del (o : Own) (z : Str) : ∀ a : List Ar, dropK (kvA a) (kyD o z) = kvA (delA a o z)
  | [] => rfl
  | x :: a => by
    have ih := kv_del o z a
    unfold dropK delA at ih ⊢
    by_cases h : x.1 = o ∧ x.2.1 = z
    · rw [show kvA (x :: a) = (kyD x.1 x.2.1, .int x.2.2) :: kvA a from rfl, List.filter_cons_of_neg (by simp [ky_iff.mpr h]), List.filter_cons_of_neg (by simp [h])]
      exact ih
    · have h' : ¬ kyD x.1 x.2.1 = kyD o z := fun e => h (ky_iff.mp e)
      rw [show kvA (x :: a) = (kyD x.1 x.2.1, .int x.2.2) :: kvA a from rfl, List.filter_cons_of_pos (by simpa using h'), List.filter_cons_of_pos (by rw [decide_eq_false h]; rfl)]
      show _ :: _ = _ :: _
      rw [ih]
      rfl
/-! ### values up to True for 1 -/
def NV (K : PySem.W.Frag) (m : Nat) (G : Hp) (v : V) (e : PyData) : Prop := ∃ d, Dp K G v d ∧ keyD d = true ∧ d.depth ≤ m ∧ nrm d = e
theorem NV.same {K : PySem.W.Frag} {m : Nat} {G G' : Hp} (s : Same G G') {v : V} {e : PyData} (h : NV K m G v e) : NV K m G' v e := let ⟨d, h1, h2⟩ := h; ⟨d, dp_same s h1, h2⟩
theorem NV.up {K : PySem.W.Frag} {m n : Nat} {G : Hp} {v : V} {e : PyData} (h : NV K m G v e) (l : m ≤ n) : NV K n G v e := let ⟨d, h1, h2, h3, h4⟩ := h; ⟨d, h1, h2, Nat.le_trans h3 l, h4⟩
theorem nv_all {K : PySem.W.Frag} {m : Nat} {G : Hp} : ∀ {us : List V} {es : List PyData}, Paired (NV K m G) us es → ∃ ds, DpAll K G us ds ∧ keyDs ds = true ∧ PyData.depthAll ds ≤ m ∧ nrms ds = es
  | _, _, .nil => ⟨[], .nil, rfl, by simp only [PyData.depthAll]; omega, rfl⟩
  | _, _, .cons ⟨d, h1, h2, h3, h4⟩ t => by
    obtain ⟨ds, k1, k2, k3, k4⟩ := nv_all t
    refine ⟨d :: ds, .cons h1 k1, ?_, ?_, ?_⟩
    · show (keyD d && keyDs ds) = true
      rw [h2, k2]
      rfl
    · simp only [PyData.depthAll]
      omega
    · show nrm d :: nrms ds = _
      rw [h4, k4]
theorem nv_tup {K : PySem.W.Frag} {m : Nat} {G : Hp} {a : Addr} {us : List V} {es : List PyData} (ha : SqT K G a us) (h : Paired (NV K m G) us es) : NV K (m + 1) G (.ref a) (.tuple es) := by
  obtain ⟨ds, k1, k2, k3, k4⟩ := nv_all h
  refine ⟨.tuple ds, .tup ha k1, by simp only [keyD]; exact k2, ?_, by simp only [nrm, k4]⟩
  simp only [PyData.depth]
  omega
theorem nv_int {K : PySem.W.Frag} {m : Nat} {G : Hp} (n : Int) : NV K m G (.int n) (.int n) := ⟨.int n, .int n, rfl, by simp only [PyData.depth]; omega, rfl⟩
theorem nv_bl {K : PySem.W.Frag} {m : Nat} {G : Hp} (b : Bool) : NV K m G (.bl b) (.int (if b then 1 else 0)) := ⟨.bool b, .bl b, rfl, by simp only [PyData.depth]; omega, rfl⟩
theorem nv_str {K : PySem.W.Frag} {m : Nat} {G : Hp} {a b : Nat} {z : Str} (lt : Lt a b z) : NV K m G (.str z) (.str z) := ⟨.str z, .str z, key_str lt, by simp only [PyData.depth]; omega, rfl⟩
theorem nv_eq {K : PySem.W.Frag} {m : Nat} {H : Hp} {Q : VK} {a b : Addr} {e f : PyData} (hm : m ≤ 190) (h : NV K m H (.ref a) e) (k : NV K m H (.ref b) f) (q1 : e = f → Q (.bl true) H) (q2 : ¬ e = f → Q (.bl false) H) : yEqL K (.ref a) (.ref b) H Q := by
  obtain ⟨d, h1, h2, h3, h4⟩ := h
  obtain ⟨d', k1, k2, k3, k4⟩ := k
  refine ⟨d, d', h1, k1, keyD_lay d h2, keyD_lay d' k2, by omega, ?_⟩
  rw [eqv_nrm d d' h2 k2, h4, k4]
  by_cases e1 : e = f
  · rw [decide_eq_true e1]; exact q1 e1
  · rw [decide_eq_false e1]; exact q2 e1
theorem nv_ne {K : PySem.W.Frag} {m : Nat} {H : Hp} {Q : VK} {a b : Addr} {e f : PyData} (hm : m ≤ 190) (h : NV K m H (.ref a) e) (k : NV K m H (.ref b) f) (q1 : e = f → Q (.bl false) H) (q2 : ¬ e = f → Q (.bl true) H) : yNeL K (.ref a) (.ref b) H Q := by
  obtain ⟨d, h1, h2, h3, h4⟩ := h
  obtain ⟨d', k1, k2, k3, k4⟩ := k
  refine ⟨d, d', h1, k1, keyD_lay d h2, keyD_lay d' k2, by omega, ?_⟩
  rw [eqv_nrm d d' h2 k2, h4, k4]
  by_cases e1 : e = f
  · rw [decide_eq_true e1]; exact q1 e1
  · rw [decide_eq_false e1]; exact q2 e1
theorem keyDs_lay0 {ds : List PyData} (h : keyDs ds = true) : (PyData.list ds).canLay0 = true := by
  simp only [PyData.canLay0]
  exact keyDs_lay ds h
theorem nl_ne {K : PySem.W.Frag} {m : Nat} {H : Hp} {Q : VK} {a b : Addr} {us vs : List V} {es fs : List PyData} (hm : m < 190) (ha : SqL K H a us) (hb : SqL K H b vs) (h : Paired (NV K m H) us es) (k : Paired (NV K m H) vs fs) (q1 : es = fs → Q (.bl false) H) (q2 : ¬ es = fs → Q (.bl true) H) : yNeL K (.ref a) (.ref b) H Q := by
  obtain ⟨d, h1, h2, h3, h4⟩ := nv_all h
  obtain ⟨d', k1, k2, k3, k4⟩ := nv_all k
  refine ⟨.list d, .list d', .lst ha h1, .lst hb k1, keyDs_lay0 h2, keyDs_lay0 k2, by simp only [PyData.depth]; omega, ?_⟩
  have e0 : PyData.eqv (.list d) (.list d') = PyData.eqvAll d d' := by simp only [PyData.eqv]
  rw [e0, eqvs_nrm d d' h2 k2, h4, k4]
  by_cases e1 : es = fs
  · rw [decide_eq_true e1]; exact q1 e1
  · rw [decide_eq_false e1]; exact q2 e1
theorem nl_eq {K : PySem.W.Frag} {m : Nat} {H : Hp} {Q : VK} {a b : Addr} {us vs : List V} {es fs : List PyData} (hm : m < 190) (ha : SqL K H a us) (hb : SqL K H b vs) (h : Paired (NV K m H) us es) (k : Paired (NV K m H) vs fs) (q1 : es = fs → Q (.bl true) H) (q2 : ¬ es = fs → Q (.bl false) H) : yEqL K (.ref a) (.ref b) H Q := by
  obtain ⟨d, h1, h2, h3, h4⟩ := nv_all h
  obtain ⟨d', k1, k2, k3, k4⟩ := nv_all k
  refine ⟨.list d, .list d', .lst ha h1, .lst hb k1, keyDs_lay0 h2, keyDs_lay0 k2, by simp only [PyData.depth]; omega, ?_⟩
  have e0 : PyData.eqv (.list d) (.list d') = PyData.eqvAll d d' := by simp only [PyData.eqv]
  rw [e0, eqvs_nrm d d' h2 k2, h4, k4]
  by_cases e1 : es = fs
  · rw [decide_eq_true e1]; exact q1 e1
  · rw [decide_eq_false e1]; exact q2 e1
theorem nl_dat {K : PySem.W.Frag} {m : Nat} {H : Hp} {a b : Addr} {us vs : List V} {es fs : List PyData} (hm : m < 190) (ha : SqL K H a us) (hb : SqL K H b vs) (h : Paired (NV K m H) us es) (k : Paired (NV K m H) vs fs) :
    ∃ d d', Dp K H (.ref a) d ∧ Dp K H (.ref b) d' ∧ d.canLay0 = true ∧ d'.canLay0 = true ∧ d.depth ≤ 190 ∧ PyData.eqv d d' = decide (es = fs) := by
  obtain ⟨d, h1, h2, h3, h4⟩ := nv_all h
  obtain ⟨d', k1, k2, k3, k4⟩ := nv_all k
  refine ⟨.list d, .list d', .lst ha h1, .lst hb k1, keyDs_lay0 h2, keyDs_lay0 k2, by simp only [PyData.depth]; omega, ?_⟩
  have e0 : PyData.eqv (.list d) (.list d') = PyData.eqvAll d d' := by simp only [PyData.eqv]
  rw [e0, eqvs_nrm d d' h2 k2, h4, k4]
theorem nv_dat {K : PySem.W.Frag} {m : Nat} {H : Hp} {a b : Addr} {e f : PyData} (hm : m ≤ 190) (h : NV K m H (.ref a) e) (k : NV K m H (.ref b) f) :
    ∃ d d', Dp K H (.ref a) d ∧ Dp K H (.ref b) d' ∧ d.canLay0 = true ∧ d'.canLay0 = true ∧ d.depth ≤ 190 ∧ PyData.eqv d d' = decide (e = f) := by
  obtain ⟨d, h1, h2, h3, h4⟩ := h
  obtain ⟨d', k1, k2, k3, k4⟩ := k
  exact ⟨d, d', h1, k1, keyD_lay d h2, keyD_lay d' k2, by omega, by rw [eqv_nrm d d' h2 k2, h4, k4]⟩
theorem any_nrm {d : PyData} (h2 : keyD d = true) : ∀ {ds : List PyData}, keyDs ds = true → (ds.any fun z => PyData.eqv z d) = decide (nrm d ∈ nrms ds)
  | [], _ => by
    have : ¬ nrm d ∈ nrms [] := by simp [nrms]
    rw [decide_eq_false this]
    rfl
  | x :: ds, k => by
    have z : (keyD x && keyDs ds) = true := k
    rw [Bool.and_eq_true] at z
    rw [List.any_cons, eqv_nrm x d z.1 h2, any_nrm h2 z.2]
    have e : nrms (x :: ds) = nrm x :: nrms ds := rfl
    by_cases h : nrm x = nrm d
    · rw [decide_eq_true h, decide_eq_true (show nrm d ∈ nrms (x :: ds) by rw [e, h]; exact List.mem_cons_self)]
      rfl
    · rw [decide_eq_false h, Bool.false_or]
      exact decide_eq_decide.mpr ⟨fun a => List.mem_cons_of_mem _ a, fun a => (List.mem_cons.mp a).resolve_left fun q => h q.symm⟩
theorem in_dat {K : PySem.W.Frag} {m : Nat} {H : Hp} {v : V} {b : Addr} {vs : List V} {e : PyData} {fs : List PyData} (hm : m ≤ 60) (h : NV K m H v e) (hb : SqL K H b vs) (k : Paired (NV K m H) vs fs) :
    ∃ d ds, Dp K H v d ∧ (Dp K H (.ref b) (.list ds) ∨ Dp K H (.ref b) (.tuple ds)) ∧ SeqAt.shaped d = true ∧ PyData.canLayAll0 ds = true ∧ (ds.any fun z => PyData.eqv z d) = decide (e ∈ fs) := by
  obtain ⟨d, h1, h2, h3, h4⟩ := h
  obtain ⟨ds, k1, k2, k3, k4⟩ := nv_all k
  refine ⟨d, ds, h1, .inl (.lst hb k1), ?_, keyDs_lay ds k2, ?_⟩
  · unfold SeqAt.shaped
    rw [keyD_lay d h2, decide_eq_true (show d.depth ≤ 64 by omega)]
    rfl
  rw [any_nrm h2 k2, h4, k4]
/-- in a list, or not -/
theorem nl_in {K : PySem.W.Frag} {m : Nat} {H : Hp} {Q : VK} {v : V} {b : Addr} {vs : List V} {e : PyData} {fs : List PyData} {neg : Bool} (hm : m ≤ 60) (h : NV K m H v e) (hb : SqL K H b vs) (k : Paired (NV K m H) vs fs) (q1 : e ∈ fs → Q (.bl !neg) H) (q2 : e ∉ fs → Q (.bl neg) H) : rInX K neg v (.ref b) H Q := by
  obtain ⟨d, h1, h2, h3, h4⟩ := h
  obtain ⟨ds, k1, k2, k3, k4⟩ := nv_all k
  refine ⟨d, ds, h1, .inl (.lst hb k1), ?_, keyDs_lay ds k2, ?_⟩
  · unfold SeqAt.shaped
    rw [keyD_lay d h2, decide_eq_true (show d.depth ≤ 64 by omega)]
    rfl
  rw [any_nrm h2 k2, h4, k4]
  by_cases e1 : e ∈ fs
  · rw [decide_eq_true e1]
    have := q1 e1
    cases neg <;> exact this
  · rw [decide_eq_false e1]
    have := q2 e1
    cases neg <;> exact this
def arD (x : Ar) : PyData := .tuple [owD x.1, .str x.2.1, .int x.2.2]
def rwD (r : Rw) : PyData := .tuple [.str (dwd r.arm), owD r.ow, .str r.wd, .int r.val]
theorem ar_inj {x y : Ar} (h : arD x = arD y) : x = y := by
  obtain ⟨a, b, c⟩ := x
  obtain ⟨a', b', c'⟩ := y
  simp only [arD, PyData.tuple.injEq, List.cons.injEq, PyData.str.injEq, PyData.int.injEq, and_true] at h
  rw [ow_inj h.1, h.2.1, h.2.2]
theorem dwd_inj {a b : Bool} (h : dwd a = dwd b) : a = b := by
  cases a <;> cases b <;> first | rfl | (exfalso; revert h; decide +kernel)
theorem rw_inj {x y : Rw} (h : rwD x = rwD y) : x = y := by
  obtain ⟨a, b, c, d⟩ := x
  obtain ⟨a', b', c', d'⟩ := y
  simp only [rwD, PyData.tuple.injEq, List.cons.injEq, PyData.str.injEq, PyData.int.injEq, and_true] at h
  rw [dwd_inj h.1, ow_inj h.2.1, h.2.2.1, h.2.2.2]
theorem prd_map {α β γ : Type} {F : α → β → Prop} {G : α → γ → Prop} {f : β → γ} (h : ∀ x y, F x y → G x (f y)) : ∀ {xs : List α} {ys : List β}, Paired F xs ys → Paired G xs (ys.map f)
  | _, _, .nil => .nil
  | _, _, .cons r t => .cons (h _ _ r) (prd_map h t)

/-! ### rows at a value -/
def RwA (K : PySem.W.Frag) (G : Hp) (u : V) (r : Rw) : Prop := ∃ t ow, u = .ref t ∧ G t = some (.tup [.str (dwd r.arm), ow, .str r.wd, .int r.val]) ∧ Dp K G ow (owD r.ow) ∧ OwOk r.ow ∧ Lt 1 8 r.wd
theorem RwA.same {K : PySem.W.Frag} {G G' : Hp} (e : Same G G') {u : V} {r : Rw} (h : RwA K G u r) : RwA K G' u r := let ⟨t, ow, h1, h2, h3, h4⟩ := h; ⟨t, ow, h1, e _ _ h2, dp_same e h3, h4⟩
/-- an owner as it is told, up to True for 1 -/
abbrev OwV (K : PySem.W.Frag) (G : Hp) (v : V) (o : Own) : Prop := NV K 7 G v (owD o)
theorem OwV.of {K : PySem.W.Frag} {G : Hp} {v : V} {o : Own} (h : Dp K G v (owD o)) : OwV K G v o := ⟨_, h, key_owd o, Nat.le_trans (dep_ow o) (by decide), nrm_ow o⟩
/-- a row (owner, word, value) -/
def ArA (K : PySem.W.Frag) (G : Hp) (u : V) (x : Ar) : Prop := ∃ t ow, u = .ref t ∧ G t = some (.tup [ow, .str x.2.1, .int x.2.2]) ∧ OwV K G ow x.1 ∧ Lt 1 8 x.2.1
theorem ArA.same {K : PySem.W.Frag} {G G' : Hp} (e : Same G G') {u : V} {x : Ar} (h : ArA K G u x) : ArA K G' u x := let ⟨t, ow, h1, h2, h3, h4⟩ := h; ⟨t, ow, h1, e _ _ h2, h3.same e, h4⟩
theorem key_at {K : PySem.W.Frag} {G : Hp} {b : Addr} {v : V} {o : Own} {z : Str} (hb : G b = some (.tup [v, .str z])) (h : Dp K G v (owD o)) (lt : Lt 1 8 z) : KeyV K G b (kyD o z) :=
  ⟨kyD o z, .tup (SqT.of hb) (.cons h (.cons (.str z) .nil)), key_ky lt, Nat.le_trans (dep_ky o z) (by decide), nrm_ky o z⟩
theorem nrm_tup {d : PyData} {ks : List PyData} (h : nrm d = .tuple ks) : ∃ ds, d = .tuple ds ∧ nrms ds = ks := by
  cases d <;> simp [nrm] at h
  exact ⟨_, rfl, h⟩
theorem nrm_strD {d : PyData} {z : Str} (h : nrm d = .str z) : d = .str z := by
  cases d <;> simp [nrm] at h
  rw [h]
theorem nrms_two {ds : List PyData} {a b : PyData} (h : nrms ds = [a, b]) : ∃ x y, ds = [x, y] ∧ nrm x = a ∧ nrm y = b := by
  match ds with
  | [] => simp [nrms] at h
  | [x] => simp [nrms] at h
  | [x, y] =>
    simp only [nrms, List.cons.injEq, and_true] at h
    exact ⟨x, y, rfl, h⟩
  | x :: y :: z :: r => simp [nrms] at h
theorem key_open {K : PySem.W.Frag} {G : Hp} {b : Addr} {o : Own} {z : Str} (h : KeyV K G b (kyD o z)) : ∃ v, SqT K G b [v, .str z] ∧ OwV K G v o := by
  obtain ⟨d, h1, h2, h3, h4⟩ := h
  obtain ⟨ds, rfl, e⟩ := nrm_tup h4
  obtain ⟨x, y, rfl, e1, e2⟩ := nrms_two e
  cases nrm_strD e2
  obtain ⟨a, xs, ea, ht, hs⟩ := dp_tup h1
  cases ea
  obtain ⟨v1, r1, rfl, hv1, hr1⟩ := dpa_cons hs
  obtain ⟨v2, r2, rfl, hv2, hr2⟩ := dpa_cons hr1
  cases dpa_nil hr2
  cases dp_str hv2
  refine ⟨v1, ht, x, hv1, ?_, ?_, e1⟩
  · have z : (keyD x && keyDs [PyData.str _]) = true := h2
    rw [Bool.and_eq_true] at z
    exact z.1
  · simp only [PyData.depth, PyData.depthAll] at h3
    omega
theorem prd_getR {α β : Type} {F : α → β → Prop} : ∀ {xs : List α} {ys : List β} {i : Nat} {y : β}, Paired F xs ys → ys[i]? = some y → ∃ x, xs[i]? = some x ∧ F x y
  | _, _, _, _, .nil, h => by simp at h
  | _, _, 0, _, .cons r _, h => by
    simp at h
    subst h
    exact ⟨_, rfl, r⟩
  | _, _, i + 1, _, .cons _ t, h => by
    rw [List.getElem?_cons_succ] at h
    obtain ⟨y, h1, h2⟩ := prd_getR t h
    exact ⟨y, by rw [List.getElem?_cons_succ]; exact h1, h2⟩
/-! ### what can be told in an error -/
theorem num16 : ∀ n : Nat, n < 16 → (PyData.shown (.int (n : Nat))).length ≤ 8 ∧ PyData.showable (.int (n : Nat)) = true := by decide +kernel
theorem okRs_all : ∀ {xs : List PyData}, (∀ x ∈ xs, PySem.okR x = true) → PySem.okRs xs = true
  | [], _ => by simp only [PySem.okRs]
  | x :: xs, h => by
    simp only [PySem.okRs, h x (by simp), okRs_all (xs := xs) fun y hy => h y (List.mem_cons_of_mem _ hy), Bool.and_self]
theorem tbRs_le {n : Nat} : ∀ {xs : List PyData}, (∀ x ∈ xs, PySem.tbR x ≤ n) → PySem.tbRs xs ≤ xs.length * (n + 2)
  | [], _ => by simp only [PySem.tbRs]; omega
  | x :: xs, h => by
    have h1 := h x (by simp)
    have h2 := tbRs_le (xs := xs) fun y hy => h y (List.mem_cons_of_mem _ hy)
    simp only [PySem.tbRs, List.length_cons, Nat.add_mul]
    omega
theorem rp_num {n : Int} (h0 : 0 ≤ n) (h1 : n < 16) : PyData.showable (.int n) = true ∧ PySem.tbR (.int n) ≤ 15 := by
  obtain ⟨k, rfl⟩ := Int.eq_ofNat_of_zero_le h0
  have z := num16 k (by omega)
  exact ⟨z.2, by simp only [PySem.tbR]; omega⟩
theorem rp_st {s : List Int} (h : s.length ≤ 3 ∧ ∀ n ∈ s, 0 ≤ n ∧ n < 16) : PySem.okR (itD s) = true ∧ (itD s).showable = true ∧ PySem.tbR (itD s) ≤ 58 := by
  refine ⟨?_, ?_, ?_⟩
  · simp only [itD, PySem.okR]
    exact okRs_all fun d hd => by
      obtain ⟨n, _, rfl⟩ := List.mem_map.mp hd
      simp only [PySem.okR]
  · simp only [itD, PyData.showable]
    exact showAll fun d hd => by
      obtain ⟨n, hn, rfl⟩ := List.mem_map.mp hd
      exact (rp_num (h.2 n hn).1 (h.2 n hn).2).1
  · have z := tbRs_le (n := 15) (xs := s.map PyData.int) fun d hd => by
      obtain ⟨n, hn, rfl⟩ := List.mem_map.mp hd
      exact (rp_num (h.2 n hn).1 (h.2 n hn).2).2
    rw [List.length_map] at z
    simp only [itD, PySem.tbR]
    have := h.1
    omega
theorem rp_ow {K : PySem.W.Frag} {H : Hp} {v : V} {o : Own} (h : OwOk o) (hv : Dp K H v (owD o)) : RpD K H v := by
  refine ⟨_, hv, ?_, ?_, ?_, Nat.le_trans (dep_ow o) (by decide)⟩
  · simp only [owD, PySem.okR]
    exact okRs_all fun d hd => by
      obtain ⟨s, hs, rfl⟩ := List.mem_map.mp hd
      exact (rp_st (h.st s hs)).1
  · simp only [owD, PyData.showable]
    exact showAll fun d hd => by
      obtain ⟨s, hs, rfl⟩ := List.mem_map.mp hd
      exact (rp_st (h.st s hs)).2.1
  · have z := tbRs_le (n := 58) (xs := o.map itD) fun d hd => by
      obtain ⟨s, hs, rfl⟩ := List.mem_map.mp hd
      exact (rp_st (h.st s hs)).2.2
    rw [List.length_map] at z
    simp only [owD, PySem.tbR]
    have := h.len
    omega
theorem rp_wd {K : PySem.W.Frag} {H : Hp} {z : Str} (lt : Lt 1 8 z) : RpD K H (.str z) := by
  have f := Fit.name lt
  have l := PyData.shown_le 8 (by decide) (.str z) f.ls
  have h := f.wt
  refine ⟨_, .str z, by simp only [PySem.okR], f.sh, ?_, by simp only [PyData.depth]; omega⟩
  simp only [PySem.tbR]
  omega
/-! ### sound -/
def clW (c1 c2 c3 : Addr) : Wr → Addr
  | .twice => c1
  | .none => c2
  | .old => c3
def spSound (K : PySem.W.Frag) (c1 c2 c3 : Addr) : Sp := fun vs H Q E => ∃ (G : Hp) (M : List (Addr × HO)) (L : Addr) (us : List V) (rs : List Rw), vs = [.ref L] ∧ Sep G M H ∧ SqL K G L us ∧ Paired (RwA K G) us rs ∧ rs.length ≤ 50000 ∧
  (∀ a, snd rs = some a → ∀ (D : Addr) (ds : List V) (G' H' : Hp), Same G G' → Sep G' ((D, .lst ds) :: M) H' → Paired (ArA K G') ds a → Q (.ref D) H') ∧
  (∀ pre r a b, Bad rs pre r a b → ∀ (G' H' : Hp) (N : List (Addr × HO)) (v : V) (dd : Addr), Same G G' → Sep G' (N ++ M) H' → Dp K G' v (owD r.ow) → H' dd = none → E (.ref (clW c1 c2 c3 b)) (some dd) (upd H' dd (.xd [(PySem.XExc2.wd, .str r.wd), (PySem.XExc2.ow, v)])))
theorem ok_sound (T : Top K mg w) (pf : PySem.XExc.PF P T.x_file) {k : Nat} : FnOk P w K mg base (L2.CX P w) (k + 12) T.a_sound T.d_sound ["log"] (spSound K T.C_ArmedTwice T.C_NotArmed T.C_OldValue) := by
  refine T.F_sound.okX sc_sound (fun vs H Q E h => ?_) (fun cdv A outer s H vs Q E hr h => ?_)
  · obtain ⟨G, M, L, us, rs, rfl, _⟩ := h
    rfl
  · obtain ⟨G, M, L, us, rs, rfl, S, hL, hp, hl, q, er⟩ := h
    refine ⟨_, (pss_cons (ps_set (i := 1) sc_sound.nd rfl (.inl rfl) (pe_dnewD K w))
      (pss_cons (ps_for (passes_of rfl) rfl (pi_listK K (xv 0)) (pg_tupK K 4 (pgs_cons (pg_name (i := 2) sc_sound.nd rfl (.inl rfl)) (pgs_cons (pg_name (i := 3) sc_sound.nd rfl (.inl rfl)) (pgs_cons (pg_name (i := 4) sc_sound.nd rfl (.inl rfl)) (pgs_cons (pg_name (i := 5) sc_sound.nd rfl (.inl rfl)) pgs_nil)))))
      (pss_cons (ps_set (i := 6) sc_sound.nd rfl (.inl rfl) (pe_tup (pa_cons (xv 3) (pa_cons (xv 4) pa_nil))))
      (pss_one (xs_if (xt_cmp (op_eqLK K hr.u190) (xv 2) pe_str (nomark _))
      (pss_cons (xs_if (pt_cmp (pc_ddin K w hr.u9 (xv 6) (xv 1)))
      (pss_one (ps_raise2 (k := 0) rfl (T.x_ArmedTwice P pf) (hr.mono (by omega)) (takes_of rfl rfl rfl rfl) (pa_cons (xv 3) (pa_cons (xv 4) pa_nil))))
      pss_nil)
      (pss_one (ps_ddput K w hr.u9 (xv 1) (xv 6) (xv 5) rfl)))
      (pss_one (xs_if (pt_cmp (pc_ddnotin K w hr.u9 (xv 6) (xv 1)))
      (pss_one (ps_raise2 (k := 0) rfl (T.x_NotArmed P pf) (hr.mono (by omega)) (takes_of rfl rfl rfl rfl) (pa_cons (xv 3) (pa_cons (xv 4) pa_nil))))
      (pss_one (xs_if (xt_cmp (op_neLK K hr.u190) (pe_ddget K w hr.u9 (xv 1) (xv 6) (fun _ _ => rfl)) (xv 5) (nomark _))
      (pss_one (ps_raise2 (k := 0) rfl (T.x_OldValue P pf) (hr.mono (by omega)) (takes_of rfl rfl rfl rfl) (pa_cons (xv 3) (pa_cons (xv 4) pa_nil))))
      (pss_one (ps_expr (pe_ddpop K w hr.u9 (xv 1) (xv 6) ⟨by rfl, by rfl, by rfl, by rfl⟩)))))))))))
      (pss_one (ps_ret (pe_lock (pe_lc (own := [("value", 5), ("owner", 3), ("word", 4)]) (by rfl) sc_sound.nd (pi_itemsD K w (xv 1)) (blkOk_by (N := ["log", "armed", "deed", "owner", "word", "value", "pair"]) (sc := defScope s_sound) (by decide +kernel)) (fun _ _ _ _ _ => (pg_tupK K 2 (pgs_cons (pg_tupK K 2 (pgs_cons (pg_name (i := 3) sc_sound.nd rfl (.inl rfl)) (pgs_cons (pg_name (i := 4) sc_sound.nd rfl (.inl rfl)) pgs_nil))) (pgs_cons (pg_name (i := 5) sc_sound.nd rfl (.inl rfl)) pgs_nil)))) (fun _ _ _ _ _ => pts_nil) (fun _ _ _ _ _ => (pe_tup (pa_cons (xv 3) (pa_cons (xv 4) (pa_cons (xv 5) pa_nil))))))))))), ?_⟩
    refine fun p o0 np d0 => ?_
    have S1 := S.new (o := o0) np
    refine ⟨L, rfl, ⟨_, S1.l hL⟩, for_list (xs := us) (fun i σ H' => ∃ (y2 y3 y4 y5 y6 : Option V) (G' : Hp) (o : HO) (a : List Ar), σ = [some (.ref L), some (.ref p), y2, y3, y4, y5, y6] ∧ Same G G' ∧ snd (rs.take i) = some a ∧ DD K w G' p o (kvA a) ∧ Sep G' ((p, o) :: M) H') ⟨_, _, _, _, _, G, o0, [], rfl, Same.refl _, rfl, d0 G, S1⟩ (fun i σ H' _ h => ?_) (fun i x σ H' hx h => ?_) (fun σ H' h => ?_)⟩
    · obtain ⟨_, _, _, _, _, G', _, _, _, s', _, _, S'⟩ := h
      exact S'.l (same_l s' hL)
    · obtain ⟨y2, y3, y4, y5, y6, G1, o, a, rfl, s1, ha, dd, S2⟩ := h
      obtain ⟨r, hr1, t, ow, rfl, ht, how, hok, lt⟩ := prd_get hp hx
      have st1 : snd (rs.take (i + 1)) = okO (stp a r) := by rw [take_snoc hr1, snd_snoc, ha]; rfl
      have bad : ∀ b, stp a r = .error b → Bad rs (rs.take i) r a b := fun b e => ⟨⟨rs.drop (i + 1), (take_pre hr1).1⟩, ha, e⟩
      have al : a.length ≤ 50000 := Nat.le_trans (snd_len ha) (by rw [List.length_take]; omega)
      obtain ⟨arm, on, z, n⟩ := r
      refine ⟨t, _, rfl, S2.t (SqT.of (s1 _ _ ht)), rfl, _, _, rfl, _, _, rfl, _, _, rfl, _, _, rfl, rfl, ?_⟩
      refine ⟨sz, fun b nb => ?_⟩
      obtain ⟨G3, s3, S3, h3⟩ := Sep.mk (o := .tup [ow, .str z]) S2 nb
      have how3 := dp_same (s1.trans s3) how
      have dd3 := dd.same s3
      have kv3 : KeyV K G3 b (kyD on z) := key_at h3 how3 lt
      have tell : ∀ (H' : Hp) (dd : Addr) (w : Wr), upd H' b (.tup [ow, .str z]) = upd H' b (.tup [ow, .str z]) → stp a ⟨arm, on, z, n⟩ = .error w → Sep G3 ((p, o) :: M) H' → H' dd = none → E (.ref (clW T.C_ArmedTwice T.C_NotArmed T.C_OldValue w)) (some dd) (upd H' dd (.xd [(PySem.XExc2.wd, .str z), (PySem.XExc2.ow, ow)])) := fun H' dd w _ e S nd =>
        er _ _ _ _ (bad w e) G3 H' [(p, o)] ow dd (s1.trans s3) S how3 nd
      cases arm with
      | true =>
        refine ⟨fun _ => ?_, fun e => nomatch (dwd_t.symm.trans e)⟩
        cases ea : atA a on z with
        | some v =>
          have e1 : stp a ⟨true, on, z, n⟩ = .error .twice := by simp only [stp, ea]
          refine ⟨p, b, o, _, _, rfl, rfl, S3.hd, dd3.same S3.1, kv3.same S3.1, true, by rw [kv_at, ea]; rfl, ?_⟩
          refine ⟨fun _ => ?_, fun e => nomatch e⟩
          exact ⟨_, _, rfl, rp_ow hok (dp_same S3.1 how3), rp_wd lt, fun dd nd => tell _ dd _ rfl e1 S3 nd⟩
        | none =>
          have e1 : stp a ⟨true, on, z, n⟩ = .ok (a ++ [(on, z, n)]) := by simp only [stp, ea]
          refine ⟨p, b, o, _, _, rfl, rfl, S3.hd, dd3.same S3.1, kv3.same S3.1, false, by rw [kv_at, ea]; rfl, ?_⟩
          refine ⟨(fun e => nomatch e), fun _ => ?_⟩
          refine ⟨G3, p, b, o, _, _, rfl, rfl, S3.hd, S3.1, dd3, kv3, by rw [kv_len]; exact smallL (by omega), fun o' d' => ?_⟩
          rw [kv_new n ea] at d'
          exact ⟨_, _, _, _, _, G3, o', _, rfl, s1.trans s3, by rw [st1, e1]; rfl, d', S3.set⟩
      | false =>
        refine ⟨(fun e => nomatch (dwd_f.symm.trans e)), fun _ => ?_⟩
        cases ea : atA a on z with
        | none =>
          have e1 : stp a ⟨false, on, z, n⟩ = .error .none := by simp only [stp, ea]
          refine ⟨p, b, o, _, _, rfl, rfl, S3.hd, dd3.same S3.1, kv3.same S3.1, true, by rw [kv_at, ea]; rfl, ?_⟩
          refine ⟨fun _ => ?_, fun e => nomatch e⟩
          exact ⟨_, _, rfl, rp_ow hok (dp_same S3.1 how3), rp_wd lt, fun dd nd => tell _ dd _ rfl e1 S3 nd⟩
        | some v =>
          refine ⟨p, b, o, _, _, rfl, rfl, S3.hd, dd3.same S3.1, kv3.same S3.1, false, by rw [kv_at, ea]; rfl, ?_⟩
          refine ⟨(fun e => nomatch e), fun _ => ?_⟩
          have gv : valV (kvA a) (kyD on z) = some (.int v) := by rw [kv_at, ea]; rfl
          refine ⟨p, b, o, _, _, .int v, rfl, rfl, S3.hd, dd3.same S3.1, kv3.same S3.1, gv, fun e => ?_, fun e => ?_⟩
          · have ne : ¬ v = n := by simpa using e
            have e1 : stp a ⟨false, on, z, n⟩ = .error .old := by simp only [stp, ea]; rw [if_neg ne]
            exact ⟨_, _, rfl, rp_ow hok (dp_same S3.1 how3), rp_wd lt, fun dd nd => tell _ dd _ rfl e1 S3 nd⟩
          · have eq : v = n := by simpa using e
            have e1 : stp a ⟨false, on, z, n⟩ = .ok (delA a on z) := by simp only [stp, ea]; rw [if_pos eq]
            refine ⟨p, o, _, rfl, S3.hd, dd3.same S3.1, G3, b, o, _, _, _, rfl, S3.hd, S3.1, dd3, kv3, gv, fun o' d' => ?_⟩
            rw [kv_del] at d'
            exact ⟨_, _, _, _, _, G3, o', _, rfl, s1.trans s3, by rw [st1, e1]; rfl, d', S3.set⟩
    · obtain ⟨y2, y3, y4, y5, y6, G1, o, a, rfl, s1, ha, dd, S2⟩ := h
      have ul : us.length = rs.length := prd_len hp
      rw [ul, List.take_length] at ha
      obtain ⟨d1, d2, es, ep, xs, rfl, hx, hn, kd⟩ := dd
      refine ⟨p, _, S2.hd, trivial, fun od => ?_⟩
      have S3 := S2.set (o' := .frz od (dO p es ep))
      refine ⟨G1, p, od, es, ep, kvA a, xs, rfl, S3.hd, d2, hx, kd, fun D nD => lc_it (walk_itemsD (kvs := kvA a)) (fun i H' => ∃ (G' : Hp) (ds : List V), Same G1 G' ∧ Paired (ArA K G') ds (a.take i) ∧ Sep G' ((D, .lst ds) :: (p, .frz od (dO p es ep)) :: M) H') ⟨G1, [], Same.refl _, .nil, S3.new nD⟩ (fun i H' _ h => ?_) (fun i x H' H'' hi h y => ?_) (fun H' h => ?_)⟩
      · obtain ⟨_, _, _, _, S'⟩ := h
        exact S'.sw.hd
      · obtain ⟨G4, ds, s4, hds, S4⟩ := h
        obtain ⟨T1, ky, b, v, hk, kb, rfl, nT, rfl⟩ := y
        unfold kvA at hk
        rw [List.getElem?_map] at hk
        obtain ⟨x0, hx0, e0⟩ := Option.map_eq_some_iff.mp hk
        cases e0
        obtain ⟨ow, hb, how⟩ := key_open kb
        have lt0 : Lt 1 8 x0.2.1 := by
          obtain ⟨r, hr1, _, er⟩ := snd_mem ha x0 (List.mem_of_getElem? hx0)
          rw [er]
          obtain ⟨j, hj, ej⟩ := List.mem_iff_getElem.mp hr1
          obtain ⟨u, _, hu⟩ := prd_getR hp (List.getElem?_eq_some_iff.mpr ⟨hj, ej⟩)
          obtain ⟨_, _, _, _, _, _, lt⟩ := hu
          exact lt
        obtain ⟨G5, s5, S5, h5⟩ := Sep.mk (o := .tup [.ref b, .int x0.2.2]) S4 nT
        have s15 := s4.trans s5
        have il := (List.getElem?_eq_some_iff.mp hx0).1
        have dl := prd_len hds
        rw [List.length_take] at dl
        have al : a.length ≤ 50000 := Nat.le_trans (snd_len ha) hl
        refine ⟨T1, _, rfl, S5.t (SqT.of h5), rfl, _, _, rfl, b, _, rfl, S5.t (same_t s15 hb), rfl, _, _, rfl, _, _, rfl, rfl, _, _, rfl, rfl, rfl, ?_⟩
        refine ⟨sz, fun t5 n5 => ?_⟩
        obtain ⟨G7, s7, S7, h7⟩ := Sep.mk (o := .tup [ow, .str x0.2.1, .int x0.2.2]) S5 n5
        refine ⟨ds, S7.hd, smallL (by omega), G7, ds ++ [.ref t5], s15.trans s7, ?_, S7.set⟩
        rw [take_snoc hx0]
        exact prd_app (prd_imp (fun _ _ h => h.same (s5.trans s7)) hds) (.cons ⟨t5, ow, rfl, h7, how.same (s15.trans s7), lt0⟩ .nil)
      · obtain ⟨G4, ds, s4, hds, S4⟩ := h
        rw [kv_len, List.take_length] at hds
        have S5 := S4.sw
        have S6 := S5.set (o' := dO p es ep)
        exact ⟨S4.sw.hd, q a ha D ds G4 _ (s1.trans s4) S6.drop hds⟩
/-- a promise that raises, used where it does not -/
theorem fn_calm {P : Program} {w : World} {K : PySem.W.Frag} {mg : Str → Option Value} {base : Heap} {k : Nat} {f : Addr} {fd : FuncData} {ps : List Str} {sp : Sp} (F : FnOk P w K mg base (L2.CX P w) k f fd ps sp) : FnOk P w K mg base CX0 k f fd ps (fun vs H Q _ => sp vs H Q E0) :=
  ⟨fun vs H Q _ h => F.len vs H Q E0 h, fun A outer s H args us vs Q E hr he hb hv h => codeAny_mono (F.run A outer s H args us vs Q E0 hr he hb hv h) fun r s' q => by
    match r, q with
    | .ok (.ret u), q => exact q
    | .ok .next, q => exact q
    | .ok .brk, q => exact q
    | .ok .cont, q => exact q
    | .error e, q =>
      obtain ⟨_, _, _, _, _, _, _, _, _, _, _, _, z⟩ := q
      exact z.elim⟩

end
end K41
set_option Elab.async false
set_option linter.all false
set_option maxRecDepth 100000
set_option maxHeartbeats 4000000
namespace K41
open PySem PySem.Spec PyProof.Rows L2 XL
section
variable {P : Program} {w : World} {K : PySem.W.Frag} {mg : Str → Option Value} {base : Heap}
theorem at0 {x : V} {r : List V} : atI (x :: r) 0 = some x := atI_nat (j := 0) rfl
/-! ### the law's walk -/
theorem lt_of {a b : Nat} {z : Str} (h : Nat.ble a z.length = true ∧ Nat.ble z.length b = true ∧ z.cps.toList.all (fun c => decide (c ∈ LS.cps.toList)) = true) : Lt a b z :=
  ⟨Nat.le_of_ble_eq_true h.1, Nat.le_of_ble_eq_true h.2.1, fun c hc => of_decide_eq_true (List.all_eq_true.mp h.2.2 c hc)⟩
theorem lt_dwd : ∀ b : Bool, Lt 1 8 (dwd b)
  | true => lt_of (by decide +kernel)
  | false => lt_of (by decide +kernel)
theorem OwV.ref {K : PySem.W.Frag} {G : Hp} {v : V} {o : Own} (h : OwV K G v o) : ∃ a, v = .ref a := by
  obtain ⟨d, h1, _, _, h4⟩ := h
  obtain ⟨ds, rfl, _⟩ := nrm_tup h4
  obtain ⟨a, _, rfl, _⟩ := dp_tup h1
  exact ⟨a, rfl⟩
theorem ow_ref {K : PySem.W.Frag} {G : Hp} {v : V} {o : Own} (h : Dp K G v (owD o)) : ∃ a, v = .ref a := (OwV.of h).ref
theorem ArA.nv {K : PySem.W.Frag} {G : Hp} {u : V} {x : Ar} (h : ArA K G u x) : NV K 10 G u (arD x) := by
  obtain ⟨t, ow, rfl, ht, how, lt⟩ := h
  exact nv_tup (SqT.of ht) (.cons (how.up (by decide)) (.cons (nv_str lt) (.cons (nv_int _) .nil)))
theorem RwA.nv {K : PySem.W.Frag} {G : Hp} {u : V} {r : Rw} (h : RwA K G u r) : NV K 10 G u (rwD r) := by
  obtain ⟨t, ow, rfl, ht, how, _, lt⟩ := h
  exact nv_tup (SqT.of ht) (.cons (nv_str (lt_dwd _)) (.cons ((OwV.of how).up (by decide)) (.cons (nv_str lt) (.cons (nv_int _) .nil))))
def wrd : Wr → Str
  | .twice => "twice"
  | .none => "none"
  | .old => "old"
def thr (a : List Ar) (o : Own) (z : Str) : List Ar := a.filter fun x => decide (x.1 = o ∧ x.2.1 = z)
theorem thr_nil {a : List Ar} {o : Own} {z : Str} : thr a o z = [] ↔ atA a o z = none := by
  unfold thr atA
  rw [List.filter_eq_nil_iff, Option.map_eq_none_iff, List.find?_eq_none]
theorem thr_cons {a t : List Ar} {o : Own} {z : Str} {x : Ar} (h : thr a o z = x :: t) : atA a o z = some x.2.2 ∧ x ∈ a ∧ x.1 = o ∧ x.2.1 = z := by
  have e : a.find? (fun x => decide (x.1 = o ∧ x.2.1 = z)) = some x := by
    rw [← List.head?_filter]
    show (thr a o z).head? = _
    rw [h]
    rfl
  refine ⟨by unfold atA; rw [e]; rfl, List.mem_of_find?_eq_some e, ?_⟩
  simpa using List.find?_some e
theorem del_ne {a : List Ar} (u : (a.map fun x => (x.1, x.2.1)).Nodup) {x : Ar} (hx : x ∈ a) : delA a x.1 x.2.1 = a.filter fun y => decide (¬ y = x) := by
  unfold delA
  apply List.filter_congr
  intro y hy
  by_cases h : y = x
  · rw [h]; simp
  · have ne : ¬ (y.1 = x.1 ∧ y.2.1 = x.2.1) := fun e => h (by
      induction a with
      | nil => cases hx
      | cons z a ih =>
        rw [List.map_cons, List.nodup_cons] at u
        rcases List.mem_cons.mp hx with hx | hx <;> rcases List.mem_cons.mp hy with hy | hy
        · rw [hx, hy]
        · exact absurd (List.mem_map.mpr ⟨y, hy, by rw [← hx, e.1, e.2]⟩) u.1
        · exact absurd (List.mem_map.mpr ⟨x, hx, by rw [← hy, e.1, e.2]⟩) u.1
        · exact ih u.2 hx hy)
    rw [decide_eq_false ne, decide_eq_true h]
    rfl
theorem filter_snoc {α : Type} (p : α → Bool) (xs : List α) (x : α) : (xs ++ [x]).filter p = xs.filter p ++ (if p x = true then [x] else []) := by
  rw [List.filter_append]
  congr 1
  cases h : p x <;> simp [h]
def spWalk (K : PySem.W.Frag) : Sp := fun vs H Q _ => ∃ (G : Hp) (M : List (Addr × HO)) (L : Addr) (us : List V) (rs : List Rw), vs = [.ref L] ∧ Sep G M H ∧ (∀ G' H', Same G G' → Sep G' M H' → SqL K H' L us) ∧ Paired (RwA K G) us rs ∧ rs.length ≤ 50000 ∧
  (∀ a, snd rs = some a → ∀ (t D : Addr) (ds : List V) (G' H' : Hp), Same G G' → G' t = some (.tup [.int rs.length, .str "sound", .ref D]) → G' D = some (.lst ds) → Paired (ArA K G') ds a → Sep G' M H' → Q (.ref t) H') ∧
  (∀ pre r a b, Bad rs pre r a b → ∀ (t D : Addr) (ds : List V) (G' H' : Hp), Same G G' → G' t = some (.tup [.int pre.length, .str (wrd b), .ref D]) → G' D = some (.lst ds) → Paired (ArA K G') ds a → Sep G' M H' → Q (.ref t) H')
theorem prd_same {K : PySem.W.Frag} {G G' : Hp} (s : Same G G') {ds : List V} {a : List Ar} (h : Paired (ArA K G) ds a) : Paired (ArA K G') ds a := prd_imp (fun _ _ h => h.same s) h
theorem prd_nv {K : PySem.W.Frag} {G : Hp} {ds : List V} {a : List Ar} (h : Paired (ArA K G) ds a) : Paired (NV K 10 G) ds (a.map arD) := prd_map (fun _ _ h => h.nv) h
theorem prd_sameR {K : PySem.W.Frag} {G G' : Hp} (s : Same G G') {ds : List V} {a : List Rw} (h : Paired (RwA K G) ds a) : Paired (RwA K G') ds a := prd_imp (fun _ _ h => h.same s) h
theorem prd_nvR {K : PySem.W.Frag} {G : Hp} {ds : List V} {a : List Rw} (h : Paired (RwA K G) ds a) : Paired (NV K 10 G) ds (a.map rwD) := prd_map (fun _ _ h => h.nv) h
theorem ok_walk (T : Top K mg w) {k : Nat} : FnOk P w K mg base CX0 (k + 12) T.a_walk T.d_walk ["_law_log"] (spWalk K) := by
  refine T.F_walk.ok sc_walk (fun vs H Q E h => ?_) (fun cdv A outer s H vs Q E hr h => ?_)
  · obtain ⟨G, M, L, us, rs, rfl, _⟩ := h
    rfl
  · obtain ⟨G, M, L, us, rs, rfl, S, hL, hp, hl, q, er⟩ := h
    refine ⟨_, (pss_cons (ps_set (i := 1) sc_walk.nd rfl (.inl rfl) (pe_lst pa_nil))
      (pss_cons (ps_for PassesOwn.never rfl (pi_enum (by rfl) T.m_enumerate (pa_cons (xv 0) pa_nil)) (pg_tupK K 2 (pgs_cons (pg_name (i := 2) sc_walk.nd rfl (.inl rfl)) (pgs_cons (pg_name (i := 3) sc_walk.nd rfl (.inr rfl)) pgs_nil)))
      (pss_cons (ps_set (i := 4) sc_walk.nd rfl (.inr rfl) (pe_lc (own := [("_law_one", 5)]) (by rfl) sc_walk.nd (pi_listK K (xv 1)) (blkOk_by (N := ["_law_log", "_law_armed", "_law_at", "_law_row", "_law_there", "_law_one"]) (sc := defScope s_walk) (by decide +kernel)) (fun _ _ _ _ _ => (pg_name (i := 5) sc_walk.nd rfl (.inl rfl))) (fun _ _ _ _ _ => (pts_one (PW.pt (xw_and (xt_cmp (op_eqLK K hr.u190) (pe_ix (ix_k K) (xv 5) pe_int (fun _ _ => rfl)) (pe_ix (ix_k K) (xv 3) pe_int (fun _ _ => rfl)) (nomark _)) (pw_and1 (xt_cmp (op_eqLK K hr.u190) (pe_ix (ix_k K) (xv 5) pe_int (fun _ _ => rfl)) (pe_ix (ix_k K) (xv 3) pe_int (fun _ _ => rfl)) (nomark _))))))) (fun _ _ _ _ _ => (xv 5))))
      (pss_one (xs_if (xt_cmp (op_eqLK K hr.u190) (pe_ix (ix_k K) (xv 3) pe_int (fun _ _ => rfl)) pe_str (nomark _))
      (pss_cons (xs_if (xt_cmp (op_neLK K hr.u190) (xv 4) (pe_lst pa_nil) (nomark _))
      (pss_one (ps_ret (pe_tup (pa_cons (xv 2) (pa_cons pe_str (pa_cons (xv 1) pa_nil))))))
      pss_nil)
      (pss_one (ps_expr (pe_bmK K PySem.F.plainAttrs_list PySem.F.slot_list_append PySem.F.type_list_append mt_append (xv 1) (pa_cons (pe_tup (pa_cons (pe_ix (ix_k K) (xv 3) pe_int (fun _ _ => rfl)) (pa_cons (pe_ix (ix_k K) (xv 3) pe_int (fun _ _ => rfl)) (pa_cons (pe_ix (ix_k K) (xv 3) pe_int (fun _ _ => rfl)) pa_nil)))) pa_nil)))))
      (pss_one (xs_if (xt_cmp (op_eqLK K hr.u190) (xv 4) (pe_lst pa_nil) (nomark _))
      (pss_one (ps_ret (pe_tup (pa_cons (xv 2) (pa_cons pe_str (pa_cons (xv 1) pa_nil))))))
      (pss_one (xs_if (xt_cmp (op_neLK K hr.u190) (pe_ix (ix_k K) (pe_ix (ix_k K) (xv 4) pe_int (fun _ _ => rfl)) pe_int (fun _ _ => rfl)) (pe_ix (ix_k K) (xv 3) pe_int (fun _ _ => rfl)) (nomark _))
      (pss_one (ps_ret (pe_tup (pa_cons (xv 2) (pa_cons pe_str (pa_cons (xv 1) pa_nil))))))
      (pss_one (ps_setLc (i := 1) (own := [("_law_one", 5)]) (by rfl) sc_walk.nd rfl rfl (sw_true rfl rfl rfl (by decide +kernel)) (pi_listK K (xv 1)) (blkOk_by (N := ["_law_log", "_law_armed", "_law_at", "_law_row", "_law_there", "_law_one"]) (sc := defScope s_walk) (by decide +kernel)) (fun _ _ _ _ _ => (pg_name (i := 5) sc_walk.nd rfl (.inl rfl))) (fun _ _ _ _ _ => (pts_one (xt_cmp (op_neLK K hr.u190) (xv 5) (pe_ix (ix_k K) (xv 4) pe_int (fun _ _ => rfl)) (nomark _)))) (fun _ _ _ _ _ => (xv 5))))))))))))
      (pss_one (ps_ret (pe_tup (pa_cons (pe_callB (cr_lenK K) (by rfl) T.m_len (by decide +kernel) (pa_cons (xv 0) pa_nil)) (pa_cons pe_str (pa_cons (xv 1) pa_nil)))))))), ?_⟩
    refine ⟨sz, fun D nD => ?_⟩
    have S1 := S.new (o := .lst []) nD
    have ul := prd_len hp
    refine ⟨L, _, rfl, hL _ _ (Same.refl _) S1.drop, for_enum (xs := us) (fun pre σ H' => ∃ (y2 y3 y4 y5 : Option V) (D : Addr) (G' : Hp) (ds : List V) (a : List Ar), σ = [some (.ref L), some (.ref D), y2, y3, y4, y5] ∧ Same G G' ∧ snd (rs.take pre.length) = some a ∧ Paired (ArA K G') ds a ∧ Sep G' ((D, .lst ds) :: M) H') ⟨_, _, _, _, D, G, [], [], rfl, Same.refl _, rfl, .nil, S1⟩ (fun pre σ H' h => ?_) (fun pre x post σ H' T1 ex h nT => ?_) (fun σ H' h => ?_)⟩
    · obtain ⟨_, _, _, _, _, G', _, _, _, s', _, _, S'⟩ := h
      exact hL _ _ s' S'.drop
    · obtain ⟨y2, y3, y4, y5, D, G1, ds, a, rfl, s1, ha, hd, S2⟩ := h
      have hx : us[pre.length]? = some x := by rw [ex]; simp
      obtain ⟨r, hr1, t, ow, rfl, ht, how, hok, lt⟩ := prd_get hp hx
      have il := (List.getElem?_eq_some_iff.mp hr1).1
      have st1 : snd (rs.take (pre.length + 1)) = okO (stp a r) := by rw [take_snoc hr1, snd_snoc, ha]; rfl
      have bad : ∀ b, stp a r = .error b → Bad rs (rs.take pre.length) r a b := fun b e => ⟨⟨rs.drop (pre.length + 1), (take_pre hr1).1⟩, ha, e⟩
      have al : a.length ≤ 50000 := Nat.le_trans (snd_len ha) (by rw [List.length_take]; omega)
      have au := snd_pairs ha
      have dl := prd_len hd
      obtain ⟨arm, on, z, n⟩ := r
      obtain ⟨wa, rfl⟩ := ow_ref how
      obtain ⟨G2, s2, S3, h3⟩ := Sep.mk (o := .tup [.int (pre.length : Nat), .ref t]) S2 nT
      have s12 := s1.trans s2
      have hT := SqT.of (K := K) (s12 _ _ ht)
      have how2 := dp_same s12 how
      refine ⟨D, rfl, ⟨_, SqL.of S3.hd⟩, fun R nR => lc_list (xs := ds) (fun i H' => ∃ ts, Paired (ArA K G2) ts (thr (a.take i) on z) ∧ Sep G2 ((R, .lst ts) :: (D, .lst ds) :: M) H') ⟨[], .nil, S3.new nR⟩ (fun i H' _ h => ?_) (fun i x H' hx h => ⟨rfl, ?_⟩) (fun H' h => ?_)⟩
      · obtain ⟨_, _, S'⟩ := h
        exact SqL.of S'.sw.hd
      · obtain ⟨ts, hts, S4⟩ := h
        obtain ⟨y, hy, t0, ow0, rfl, ht0, how0, lt0⟩ := prd_get hd hx
        obtain ⟨w0, rfl⟩ := how0.ref
        have iy := (List.getElem?_eq_some_iff.mp hy).1
        have hT0 := SqT.of (K := K) (s2 _ _ ht0)
        have tl : ts.length < 100000 := by
          rw [prd_len hts]
          unfold thr
          have := List.length_filter_le (fun x : Ar => decide (x.1 = on ∧ x.2.1 = z)) (a.take i)
          rw [List.length_take] at this
          omega
        have th : thr (a.take (i + 1)) on z = thr (a.take i) on z ++ (if decide (y.1 = on ∧ y.2.1 = z) = true then [y] else []) := by
          rw [take_snoc hy]
          exact filter_snoc _ _ _
        have no : ¬ (y.1 = on ∧ y.2.1 = z) → ∃ ts, Paired (ArA K G2) ts (thr (a.take (i + 1)) on z) ∧ Sep G2 ((R, .lst ts) :: (D, .lst ds) :: M) H' := fun ne => ⟨ts, by rw [th, decide_eq_false ne, if_neg Bool.false_ne_true, List.append_nil]; exact hts, S4⟩
        refine ⟨_, _, .inr (S4.t hT0), at0, _, _, .inr (S4.t hT), rfl, nv_eq (m := 7) (by decide) ((how0.same s2).same S4.1) (OwV.of (dp_same S4.1 how2)) (fun eo => ⟨fun _ => ?_, fun e => nomatch e⟩) (fun ne => ⟨(fun e => nomatch e), fun _ => ?_⟩)⟩
        · refine ⟨_, .str y.2.1, .inr (S4.t hT0), rfl, _, .str z, .inr (S4.t hT), rfl, ?_⟩
          refine tst (fun e => ?_) (fun e => ?_)
          · have ez : y.2.1 = z := of_decide_eq_true e
            refine ⟨_, S4.hd, smallL tl, ts ++ [.ref t0], ?_, S4.set⟩
            rw [th, decide_eq_true ⟨ow_inj eo, ez⟩, if_pos rfl]
            exact prd_app hts (.cons ⟨t0, _, rfl, s2 _ _ ht0, how0.same s2, lt0⟩ .nil)
          · exact no fun h => (of_decide_eq_false e) h.2
        · exact no fun h => ne (by rw [h.1])
      obtain ⟨ts, hts, S4⟩ := h
      rw [dl, List.take_length] at hts
      have tail : ∀ (H5 : Hp) (D' : Addr) (ds' : List V) (G5 : Hp) (c : List Ar) (y4' y5' : Option V), Same G2 G5 → stp a ⟨arm, on, z, n⟩ = .ok c → Paired (ArA K G5) ds' c → Sep G5 ((D', .lst ds') :: M) H5 → ∃ (y2 y3 y4 y5 : Option V) (D : Addr) (G' : Hp) (ds : List V) (a : List Ar), ([some (.ref L), some (.ref D'), some (.int (pre.length : Nat)), some (.ref t), y4', y5'] : L2.St) = [some (.ref L), some (.ref D), y2, y3, y4, y5] ∧ Same G G' ∧ snd (rs.take (pre ++ [V.ref t]).length) = some a ∧ Paired (ArA K G') ds a ∧ Sep G' ((D, .lst ds) :: M) H5 := fun H5 D' ds' G5 c y4' y5' s5 e h S5 =>
        ⟨_, _, _, _, D', G5, ds', c, rfl, s12.trans s5, by rw [List.length_append]; show snd (rs.take (pre.length + 1)) = _; rw [st1, e]; rfl, h, S5⟩
      refine ⟨_, .str (dwd arm), .inr (S4.t hT), at0, ?_⟩
      have close : ∀ (b : Wr) (H5 : Hp), stp a ⟨arm, on, z, n⟩ = .error b → Sep G2 ((R, .lst ts) :: (D, .lst ds) :: M) H5 → ∀ t5, H5 t5 = none → Q (.ref t5) (upd H5 t5 (.tup [.int (pre.length : Nat), .str (wrd b), .ref D])) := fun b H5 e S5 t5 n5 => by
        have S6 := S5.drop
        obtain ⟨G7, s7, S7, h7⟩ := Sep.mk (o := .tup [.int (pre.length : Nat), .str (wrd b), .ref D]) S6 n5
        have S8 := S7.frz
        refine er _ _ _ _ (bad b e) t5 D ds _ _ ((s12.trans s7).trans S7.frzS) ?_ upd_same (prd_same (s2.trans (s7.trans S7.frzS)) hd) S8
        rw [List.length_take, Nat.min_eq_left (Nat.le_of_lt il)]
        exact S7.frzS _ _ h7
      have empty : ∀ {Z : Addr} {H5 : Hp}, H5 = upd H' Z (.lst []) → H' Z = none → SqL K H5 R ts ∧ SqL K H5 Z [] ∧ Paired (NV K 10 H5) ts ((thr a on z).map arD) ∧ Paired (NV K 10 H5) ([] : List V) [] ∧ Sep G2 ((R, .lst ts) :: (D, .lst ds) :: M) H5 := fun e nz => by
        subst e
        have S5 := S4.new (o := .lst []) nz
        exact ⟨SqL.of S5.sw.hd, SqL.of S5.hd, prd_nv (prd_same S5.1 hts), .nil, S5.drop⟩
      cases arm with
      | true =>
        refine ⟨fun _ => ?_, fun e => nomatch (dwd_t.symm.trans e)⟩
        refine ⟨sz, fun Z nZ => ?_⟩
        obtain ⟨k1, k2, k3, k4, S5⟩ := empty rfl nZ
        refine nl_ne (m := 10) (by decide) k1 k2 k3 k4 (fun e0 => ⟨(fun e => nomatch e), fun _ => ?_⟩) (fun n0 => ⟨fun _ => ?_, fun e => nomatch e⟩)
        · have e1 : stp a ⟨true, on, z, n⟩ = .ok (a ++ [(on, z, n)]) := by
            have := thr_nil.mp (List.map_eq_nil_iff.mp e0)
            simp only [stp, this]
          have S6 := S5.drop
          refine ⟨.inl ⟨rfl, _, SqL.of S6.hd⟩, _, .ref wa, .inr (S6.t hT), rfl, _, .str z, .inr (S6.t hT), rfl, _, .int n, .inr (S6.t hT), rfl, sz, fun t5 n5 => ?_⟩
          obtain ⟨G7, s7, S7, h7⟩ := Sep.mk (o := .tup [.ref wa, .str z, .int n]) S6 n5
          refine ⟨D, ds, _, rfl, rfl, S7.hd, smallL (by omega), ?_⟩
          exact tail _ D _ G7 _ _ _ s7 e1 (prd_app (prd_same (s2.trans s7) hd) (.cons ⟨t5, _, rfl, h7, OwV.of (dp_same s7 how2), lt⟩ .nil)) S7.set
        · have e1 : stp a ⟨true, on, z, n⟩ = .error .twice := by
            cases e2 : atA a on z with
            | none => exact absurd (by rw [thr_nil.mpr e2]; rfl) n0
            | some v => simp only [stp, e2]
          exact ⟨sz, fun t5 n5 => close .twice _ e1 S5 t5 n5⟩
      | false =>
        refine ⟨(fun e => nomatch (dwd_f.symm.trans e)), fun _ => ?_⟩
        refine ⟨sz, fun Z nZ => ?_⟩
        obtain ⟨k1, k2, k3, k4, S5⟩ := empty rfl nZ
        refine nl_eq (m := 10) (by decide) k1 k2 k3 k4 (fun e0 => ⟨fun _ => ?_, fun e => nomatch e⟩) (fun n0 => ⟨(fun e => nomatch e), fun _ => ?_⟩)
        · have e1 : stp a ⟨false, on, z, n⟩ = .error .none := by
            have := thr_nil.mp (List.map_eq_nil_iff.mp e0)
            simp only [stp, this]
          exact ⟨sz, fun t5 n5 => close .none _ e1 S5 t5 n5⟩
        · cases et : thr a on z with
          | nil => exact absurd (by rw [et]; rfl) n0
          | cons x xr =>
            rw [et] at hts
            obtain ⟨e2, xm, x1, x2⟩ := thr_cons et
            match ts, hts with
            | u0 :: tr, .cons hu _ =>
              have hu' := hu
              obtain ⟨t0, ow0, rfl, ht0, how0, lt0⟩ := hu
              have hT0 := SqT.of (K := K) ht0
              refine ⟨_, _, .inl (SqL.of S5.hd), at0, _, .int x.2.2, .inr (S5.t hT0), rfl, _, .int n, .inr (S5.t hT), rfl, fun e => ?_, fun e => ?_⟩
              · have ne : ¬ x.2.2 = n := by simpa using e
                have e1 : stp a ⟨false, on, z, n⟩ = .error .old := by simp only [stp, e2]; rw [if_neg ne]
                exact ⟨sz, fun t5 n5 => close .old _ e1 S5 t5 n5⟩
              · have eq : x.2.2 = n := by simpa using e
                have e1 : stp a ⟨false, on, z, n⟩ = .ok (delA a on z) := by simp only [stp, e2]; rw [if_pos eq]
                have ed : delA a on z = a.filter fun y => decide (¬ y = x) := by rw [← x1, ← x2]; exact del_ne au xm
                refine ⟨D, rfl, ⟨_, SqL.of S5.sw.hd⟩, fun B nB => lc_list (xs := ds) (fun i H' => ∃ bs, Paired (ArA K G2) bs ((a.take i).filter fun y => decide (¬ y = x)) ∧ Sep G2 ((B, .lst bs) :: (R, .lst (.ref t0 :: tr)) :: (D, .lst ds) :: M) H') ⟨[], .nil, S5.new nB⟩ (fun i H' _ h => ?_) (fun i x5 H' hx5 h => ⟨rfl, ?_⟩) (fun H' h => ?_)⟩
                · obtain ⟨_, _, S'⟩ := h
                  exact SqL.of S'.drop.sw.hd
                · obtain ⟨bs, hbs, S6⟩ := h
                  obtain ⟨y, hy, hyA⟩ := prd_get hd hx5
                  have hyA := hyA.same s2
                  have hyB := hyA
                  obtain ⟨ty, owy, rfl, _⟩ := hyB
                  have iy := (List.getElem?_eq_some_iff.mp hy).1
                  have bl : bs.length < 100000 := by
                    rw [prd_len hbs]
                    have := List.length_filter_le (fun y : Ar => decide (¬ y = x)) (a.take i)
                    rw [List.length_take] at this
                    omega
                  have th : (a.take (i + 1)).filter (fun y => decide (¬ y = x)) = (a.take i).filter (fun y => decide (¬ y = x)) ++ (if decide (¬ y = x) = true then [y] else []) := by
                    rw [take_snoc hy]
                    exact filter_snoc _ _ _
                  refine ⟨_, _, .inl (SqL.of S6.sw.hd), at0, nv_ne (m := 10) (by decide) (hyA.nv.same S6.1) (hu'.nv.same S6.1) (fun e6 => ?_) (fun n6 => ?_)⟩
                  · have e7 := ar_inj e6
                    refine tst (fun e => nomatch e) (fun _ => ⟨bs, ?_, S6⟩)
                    rw [th, decide_eq_false (show ¬ ¬ y = x from fun z => z e7), if_neg Bool.false_ne_true, List.append_nil]
                    exact hbs
                  · refine tst (fun _ => ?_) (fun e => nomatch e)
                    refine ⟨_, S6.hd, smallL bl, bs ++ [.ref ty], ?_, S6.set⟩
                    rw [th, decide_eq_true (show ¬ y = x from fun z => n6 (by rw [z])), if_pos rfl]
                    exact prd_app hbs (.cons hyA .nil)
                · obtain ⟨bs, hbs, S6⟩ := h
                  rw [dl, List.take_length, ← ed] at hbs
                  exact tail _ B bs G2 _ _ _ (Same.refl _) e1 hbs (S6.sw.drop.sw.drop)
    · obtain ⟨y2, y3, y4, y5, D, G1, ds, a, rfl, s1, ha, hd, S2⟩ := h
      rw [ul, List.take_length] at ha
      refine ⟨us, .inl (hL _ _ s1 S2.drop), sz, fun t5 n5 => ?_⟩
      obtain ⟨G7, s7, S7, h7⟩ := Sep.mk (o := .tup [.int us.length, .str "sound", .ref D]) S2 n5
      have S8 := S7.frz
      rw [ul] at h7
      exact q a ha t5 D ds _ _ ((s1.trans s7).trans S7.frzS) (S7.frzS _ _ h7) upd_same (prd_same (s7.trans S7.frzS) hd) S8

end
end K41
set_option Elab.async false
set_option linter.all false
set_option maxRecDepth 100000
set_option maxHeartbeats 4000000
namespace K41
open PySem PySem.Spec PyProof.Rows L2 XL
section
variable {P : Program} {w : World} {K : PySem.W.Frag} {mg : Str → Option Value} {base : Heap}
/-! ### the board by plain lists -/
structure En where
  ow : Own
  wd : Str
  val : Int
  seen : List Int
def En.ar (e : En) : Ar := (e.ow, e.wd, e.val)
def En.pr (e : En) : Own × Str := (e.ow, e.wd)
def En.on (e : En) : Rw := ⟨true, e.ow, e.wd, e.val⟩
def En.off (e : En) : Rw := ⟨false, e.ow, e.wd, e.val⟩
def atW (es : List En) (o : Own) (z : Str) : Option (List Int) := (es.find? fun e => decide (e.ow = o ∧ e.wd = z)).map (·.seen)
def stayB (es : List En) (h : En) : Bool := decide (atW es h.ow h.wd = some h.seen)
def inB (ss : List En) (e : En) : Bool := ss.any fun s => decide (s.ow = e.ow ∧ s.wd = e.wd)
def stays (hs es : List En) : List En := hs.filter (stayB es)
def goes (hs es : List En) : List En := hs.filter fun h => !stayB es h
def comes (hs es : List En) : List En := es.filter fun e => !inB (stays hs es) e
def logB (hs es : List En) : List Rw := (goes hs es).reverse.map En.off ++ (comes hs es).map En.on
def heldB (hs es : List En) : List En := stays hs es ++ comes hs es
def foldE (a : List Ar) (rs : List Rw) : Option (List Ar) := rs.foldl (fun a r => a.bind fun a => okO (stp a r)) (some a)
theorem snd_fold (rs ts : List Rw) {a : List Ar} (h : snd rs = some a) : snd (rs ++ ts) = foldE a ts := by
  unfold snd foldE at *
  rw [List.foldl_append, h]
theorem foldE_cons {a b : List Ar} {r : Rw} (h : stp a r = .ok b) (rs : List Rw) : foldE a (r :: rs) = foldE b rs := by
  unfold foldE
  rw [List.foldl_cons]
  show List.foldl _ (okO (stp a r)) rs = _
  rw [h]
  rfl
theorem foldE_app {a b : List Ar} {rs : List Rw} (h : foldE a rs = some b) (ts : List Rw) : foldE a (rs ++ ts) = foldE b ts := by
  unfold foldE at *
  rw [List.foldl_append, h]
def prs (a : List Ar) : List (Own × Str) := a.map fun x => (x.1, x.2.1)
theorem atA_of {a : List Ar} (u : (prs a).Nodup) {x : Ar} (h : x ∈ a) : atA a x.1 x.2.1 = some x.2.2 := by
  induction a with
  | nil => cases h
  | cons y a ih =>
    unfold prs at u
    rw [List.map_cons, List.nodup_cons] at u
    rcases List.mem_cons.mp h with rfl | h
    · simp [atA, List.find?_cons]
    · have ne : ¬ (y.1 = x.1 ∧ y.2.1 = x.2.1) := fun e => u.1 (List.mem_map.mpr ⟨x, h, by rw [← e.1, ← e.2]⟩)
      have z := ih u.2 h
      unfold atA at z ⊢
      rw [List.find?_cons_of_neg (by simpa using ne)]
      exact z
theorem atA_no {a : List Ar} {o : Own} {z : Str} : atA a o z = none ↔ (o, z) ∉ prs a := by
  unfold atA prs
  rw [Option.map_eq_none_iff, List.find?_eq_none]
  refine ⟨fun h hm => ?_, fun h x hx e => ?_⟩
  · obtain ⟨x, hx, e⟩ := List.mem_map.mp hm
    cases e
    exact h x hx (by simp)
  · have e2 : x.1 = o ∧ x.2.1 = z := by simpa using e
    exact h (List.mem_map.mpr ⟨x, hx, by rw [e2.1, e2.2]⟩)
theorem del_pairs {a : List Ar} {o : Own} {z : Str} (u : (prs a).Nodup) : (prs (delA a o z)).Nodup := (List.filter_sublist.map _).nodup u
theorem clean_fold : ∀ (gs : List En) (a : List Ar), (prs a).Nodup → (gs.map En.pr).Nodup → (∀ g ∈ gs, g.ar ∈ a) → foldE a (gs.map En.off) = some (a.filter fun x => !(gs.any fun g => decide (g.ow = x.1 ∧ g.wd = x.2.1)))
  | [], a, _, _, _ => by
    simp only [List.map_nil, List.any_nil, Bool.not_false]
    show some a = _
    exact congrArg some (List.filter_eq_self.mpr fun _ _ => rfl).symm
  | g :: gs, a, u, n, h => by
    rw [List.map_cons, List.nodup_cons] at n
    have e : stp a g.off = .ok (delA a g.ow g.wd) := by
      have z := atA_of u (h g List.mem_cons_self)
      have z : atA a g.ow g.wd = some g.val := z
      simp only [stp, En.off, z]
      rfl
    rw [List.map_cons, foldE_cons e, clean_fold gs _ (del_pairs u) n.2 fun g' hg' => ?_]
    · unfold delA
      rw [List.filter_filter]
      congr 1
      apply List.filter_congr
      intro x _
      rw [List.any_cons, Bool.not_or, Bool.and_comm]
      congr 2
      exact decide_eq_decide.mpr ⟨fun ⟨a, b⟩ => ⟨a.symm, b.symm⟩, fun ⟨a, b⟩ => ⟨a.symm, b.symm⟩⟩
    · refine List.mem_filter.mpr ⟨h g' (List.mem_cons_of_mem _ hg'), ?_⟩
      have ne : ¬ (g'.ow = g.ow ∧ g'.wd = g.wd) := fun e => n.1 (List.mem_map.mpr ⟨g', hg', by unfold En.pr; rw [e.1, e.2]⟩)
      show (!decide (g'.ow = g.ow ∧ g'.wd = g.wd)) = true
      rw [decide_eq_false ne]
      rfl
theorem arm_fold : ∀ (ns : List En) (a : List Ar), (ns.map En.pr).Nodup → (∀ n ∈ ns, n.pr ∉ prs a) → foldE a (ns.map En.on) = some (a ++ ns.map En.ar)
  | [], a, _, _ => by rw [List.map_nil, List.map_nil, List.append_nil]; rfl
  | n :: ns, a, u, h => by
    rw [List.map_cons, List.nodup_cons] at u
    have e : stp a n.on = .ok (a ++ [n.ar]) := by
      have z := atA_no.mpr (h n List.mem_cons_self)
      have z : atA a n.ow n.wd = none := z
      simp only [stp, En.on, z]
      rfl
    rw [List.map_cons, foldE_cons e, arm_fold ns _ u.2 fun n' hn' hm => ?_]
    · simp
    · unfold prs at hm
      rw [List.map_append] at hm
      rcases List.mem_append.mp hm with hm | hm
      · exact h n' (List.mem_cons_of_mem _ hn') hm
      · have e2 := List.mem_singleton.mp hm
        exact u.1 (List.mem_map.mpr ⟨n', hn', e2⟩)
theorem atW_of {es : List En} (u : (es.map En.pr).Nodup) {e : En} (h : e ∈ es) : atW es e.ow e.wd = some e.seen := by
  induction es with
  | nil => cases h
  | cons y es ih =>
    rw [List.map_cons, List.nodup_cons] at u
    rcases List.mem_cons.mp h with rfl | h
    · simp [atW, List.find?_cons]
    · have ne : ¬ (y.ow = e.ow ∧ y.wd = e.wd) := fun z => u.1 (List.mem_map.mpr ⟨e, h, by unfold En.pr; rw [z.1, z.2]⟩)
      have z := ih u.2 h
      unfold atW at z ⊢
      rw [List.find?_cons_of_neg (by simpa using ne)]
      exact z
theorem inB_iff {ss : List En} {e : En} : inB ss e = true ↔ e.pr ∈ ss.map En.pr := by
  unfold inB
  rw [List.any_eq_true]
  refine ⟨fun ⟨s, hs, h⟩ => ?_, fun h => ?_⟩
  · have z : s.ow = e.ow ∧ s.wd = e.wd := by simpa using h
    exact List.mem_map.mpr ⟨s, hs, by unfold En.pr; rw [z.1, z.2]⟩
  · obtain ⟨s, hs, z⟩ := List.mem_map.mp h
    unfold En.pr at z
    rw [Prod.mk.injEq] at z
    exact ⟨s, hs, by simpa using z⟩
theorem prs_ar (es : List En) : prs (es.map En.ar) = es.map En.pr := by
  unfold prs
  rw [List.map_map]
  rfl
theorem pr_same {es : List En} (u : (es.map En.pr).Nodup) {x y : En} (hx : x ∈ es) (hy : y ∈ es) (e : x.pr = y.pr) : x = y := by
  induction es with
  | nil => cases hx
  | cons z es ih =>
    rw [List.map_cons, List.nodup_cons] at u
    rcases List.mem_cons.mp hx with hx | hx <;> rcases List.mem_cons.mp hy with hy | hy
    · rw [hx, hy]
    · exact absurd (List.mem_map.mpr ⟨y, hy, by rw [← e, hx]⟩) u.1
    · exact absurd (List.mem_map.mpr ⟨x, hx, by rw [e, hy]⟩) u.1
    · exact ih u.2 hx hy
theorem held_pairs {hs es : List En} (u : (hs.map En.pr).Nodup) (n : (es.map En.pr).Nodup) : ((heldB hs es).map En.pr).Nodup := by
  unfold heldB
  rw [List.map_append, List.nodup_append]
  refine ⟨(List.filter_sublist.map _).nodup u, (List.filter_sublist.map _).nodup n, fun x hx y hy e => ?_⟩
  subst e
  obtain ⟨c, hc, rfl⟩ := List.mem_map.mp hy
  have z := (List.mem_filter.mp hc).2
  rw [inB_iff.mpr hx] at z
  cases z
/-- the log leads from what was held to what is held -/
theorem bring_log {hs es : List En} (u : (hs.map En.pr).Nodup) (n : (es.map En.pr).Nodup) : foldE (hs.map En.ar) (logB hs es) = some ((heldB hs es).map En.ar) := by
  unfold logB
  have ug : ((goes hs es).map En.pr).Nodup := (List.filter_sublist.map _).nodup u
  have c1 := clean_fold (goes hs es).reverse (hs.map En.ar) (by rw [prs_ar]; exact u) (by rw [List.map_reverse]; exact ((List.reverse_perm _).nodup_iff.mpr ug)) fun g hg => List.mem_map_of_mem (List.mem_filter.mp (List.mem_reverse.mp hg)).1
  have c2 : (hs.map En.ar).filter (fun x => !((goes hs es).reverse.any fun g => decide (g.ow = x.1 ∧ g.wd = x.2.1))) = (stays hs es).map En.ar := by
    rw [List.filter_map]
    unfold stays
    congr 1
    apply List.filter_congr
    intro x hx
    show (!((goes hs es).reverse.any fun g => decide (g.ow = x.ow ∧ g.wd = x.wd))) = stayB es x
    rw [List.any_reverse]
    have k : inB (goes hs es) x = !stayB es x := by
      by_cases h : stayB es x = true
      · rw [h]
        cases e : inB (goes hs es) x with
        | false => rfl
        | true =>
          obtain ⟨g, hg, ge⟩ := List.mem_map.mp (inB_iff.mp e)
          have gx := pr_same u (List.mem_filter.mp hg).1 hx ge
          have z := (List.mem_filter.mp hg).2
          rw [gx, h] at z
          cases z
      · have h2 : stayB es x = false := by simpa using h
        rw [h2]
        exact inB_iff.mpr (List.mem_map_of_mem (List.mem_filter.mpr ⟨hx, by rw [h2]; rfl⟩))
    show (!inB (goes hs es) x) = _
    rw [k, Bool.not_not]
  rw [c2] at c1
  have un : ((comes hs es).map En.pr).Nodup := (List.filter_sublist.map _).nodup n
  rw [foldE_app c1, arm_fold (comes hs es) _ un fun c hc hm => ?_]
  · unfold heldB
    rw [List.map_append]
  · rw [prs_ar] at hm
    have z := (List.mem_filter.mp hc).2
    rw [inB_iff.mpr hm] at z
    cases z
theorem held_all {hs es : List En} (n : (es.map En.pr).Nodup) : ∀ e ∈ es, e.pr ∈ (heldB hs es).map En.pr := fun e he => by
  unfold heldB
  rw [List.map_append]
  cases h : inB (stays hs es) e with
  | true => exact List.mem_append_left _ (inB_iff.mp h)
  | false => exact List.mem_append_right _ (List.mem_map_of_mem (List.mem_filter.mpr ⟨he, by rw [h]; rfl⟩))
theorem held_in {hs es : List En} : ∀ x ∈ heldB hs es, x.pr ∈ es.map En.pr := fun x hx => by
  unfold heldB at hx
  rcases List.mem_append.mp hx with hx | hx
  · have z : atW es x.ow x.wd = some x.seen := by simpa [stayB] using (List.mem_filter.mp hx).2
    unfold atW at z
    obtain ⟨e, he, _⟩ := Option.map_eq_some_iff.mp z
    have h1 := List.mem_of_find?_eq_some he
    have h2 : e.ow = x.ow ∧ e.wd = x.wd := by simpa using List.find?_some he
    exact List.mem_map.mpr ⟨e, h1, by unfold En.pr; rw [h2.1, h2.2]⟩
  · exact List.mem_map_of_mem (List.mem_filter.mp hx).1
theorem held_len {hs es : List En} (u : (hs.map En.pr).Nodup) (n : (es.map En.pr).Nodup) : (heldB hs es).length = es.length := by
  have p : ((heldB hs es).map En.pr).Perm (es.map En.pr) := (List.perm_ext_iff_of_nodup (held_pairs u n) n).mpr fun q => ⟨fun h => by
    obtain ⟨x, hx, rfl⟩ := List.mem_map.mp h
    exact held_in x hx, fun h => by
    obtain ⟨e, he, rfl⟩ := List.mem_map.mp h
    exact held_all n e he⟩
  have l := p.length_eq
  rwa [List.length_map, List.length_map] at l

/-! ### the board at work -/
def EnA (K : PySem.W.Frag) (G : Hp) (u : V) (e : En) : Prop := ∃ t ow sn, u = .ref t ∧ G t = some (.tup [ow, .str e.wd, .int e.val, .ref sn]) ∧ Dp K G ow (owD e.ow) ∧ OwOk e.ow ∧ Lt 1 8 e.wd ∧ G sn = some (.tup (e.seen.map V.int))
theorem EnA.same {K : PySem.W.Frag} {G G' : Hp} (s : Same G G') {u : V} {e : En} (h : EnA K G u e) : EnA K G' u e := let ⟨t, ow, sn, h1, h2, h3, h4, h5, h6⟩ := h; ⟨t, ow, sn, h1, s _ _ h2, dp_same s h3, h4, h5, s _ _ h6⟩
theorem prd_rev {α β : Type} {F : α → β → Prop} : ∀ {xs : List α} {ys : List β}, Paired F xs ys → Paired F xs.reverse ys.reverse
  | _, _, .nil => .nil
  | _, _, .cons r t => by
    rw [List.reverse_cons, List.reverse_cons]
    exact prd_app (prd_rev t) (.cons r .nil)
theorem prd_sameE {K : PySem.W.Frag} {G G' : Hp} (s : Same G G') {us : List V} {es : List En} (h : Paired (EnA K G) us es) : Paired (EnA K G') us es := prd_imp (fun _ _ h => h.same s) h
theorem atW_snoc (es : List En) (e : En) (o : Own) (z : Str) : atW (es ++ [e]) o z = (atW es o z).or (if e.ow = o ∧ e.wd = z then some e.seen else none) := by
  unfold atW
  rw [List.find?_append]
  cases h : es.find? (fun e => decide (e.ow = o ∧ e.wd = z)) with
  | some x => rfl
  | none =>
    by_cases h2 : e.ow = o ∧ e.wd = z
    · rw [if_pos h2, List.find?_cons_of_pos (by simpa using h2)]
      rfl
    · rw [if_neg h2, List.find?_cons_of_neg (by simpa using h2)]
      rfl
theorem atW_no {es : List En} {o : Own} {z : Str} : atW es o z = none ↔ (o, z) ∉ es.map En.pr := by
  unfold atW
  rw [Option.map_eq_none_iff, List.find?_eq_none]
  refine ⟨fun h hm => ?_, fun h x hx e => ?_⟩
  · obtain ⟨x, hx, e⟩ := List.mem_map.mp hm
    cases e
    exact h x hx (by simp)
  · have e2 : x.ow = o ∧ x.wd = z := by simpa using e
    exact h (List.mem_map.mpr ⟨x, hx, by unfold En.pr; rw [e2.1, e2.2]⟩)
/-- wanted -/
structure Wnt (G : Hp) (kvs : List (PyData × V)) (es : List En) : Prop where
  no : ∀ o z, atW es o z = none → valV kvs (kyD o z) = none
  is : ∀ o z ns, atW es o z = some ns → ∃ sn, valV kvs (kyD o z) = some (.ref sn) ∧ G sn = some (.tup (ns.map V.int))
  len : kvs.length ≤ es.length
theorem Wnt.same {G G' : Hp} (s : Same G G') {kvs : List (PyData × V)} {es : List En} (h : Wnt G kvs es) : Wnt G' kvs es := ⟨h.no, fun o z ns e => let ⟨sn, h1, h2⟩ := h.is o z ns e; ⟨sn, h1, s _ _ h2⟩, h.len⟩
theorem Wnt.nil (G : Hp) : Wnt G [] [] := ⟨fun _ _ _ => rfl, (fun _ _ _ h => nomatch h), Nat.le_refl _⟩
theorem Wnt.put {G : Hp} {kvs : List (PyData × V)} {es : List En} {e : En} {sn : Addr} (h : Wnt G kvs es) (n : atW es e.ow e.wd = none) (hs : G sn = some (.tup (e.seen.map V.int))) : Wnt G (putK kvs (kyD e.ow e.wd) (.ref sn)) (es ++ [e]) := by
  refine ⟨fun o z q => ?_, fun o z ns q => ?_, ?_⟩
  · rw [atW_snoc] at q
    rw [valV_put]
    by_cases c : e.ow = o ∧ e.wd = z
    · rw [if_pos c] at q
      cases h3 : atW es o z <;> rw [h3] at q <;> cases q
    · rw [if_neg (fun k => c ((ky_inj k).elim fun a b => ⟨a.symm, b.symm⟩))]
      rw [if_neg c] at q
      refine h.no o z ?_
      cases h3 : atW es o z with
      | none => rfl
      | some x => rw [h3] at q; cases q
  · rw [atW_snoc] at q
    rw [valV_put]
    by_cases c : e.ow = o ∧ e.wd = z
    · rw [if_pos c, ← c.1, ← c.2, n] at q
      rw [if_pos (by rw [c.1, c.2])]
      cases q
      exact ⟨sn, rfl, hs⟩
    · rw [if_neg (fun k => c ((ky_inj k).elim fun a b => ⟨a.symm, b.symm⟩))]
      rw [if_neg c] at q
      refine h.is o z ns ?_
      cases h3 : atW es o z with
      | none => rw [h3] at q; cases q
      | some x => rw [h3] at q; exact q
  · rw [putK_new _ (h.no _ _ n), List.length_append, List.length_append]
    have := h.len
    simp
    omega
/-- kept -/
structure Kpt (kvs : List (PyData × V)) (ss : List En) : Prop where
  is : ∀ e : En, (valV kvs (kyD e.ow e.wd)).isSome = inB ss e
  len : kvs.length ≤ ss.length
theorem Kpt.put {kvs : List (PyData × V)} {ss : List En} {s : En} (h : Kpt kvs ss) (n : s.pr ∉ ss.map En.pr) : Kpt (putK kvs (kyD s.ow s.wd) (.bl true)) (ss ++ [s]) := by
  have no : valV kvs (kyD s.ow s.wd) = none := by
    have z := h.is s
    have b : inB ss s = false := by
      cases q : inB ss s with
      | false => rfl
      | true => exact absurd (inB_iff.mp q) n
    rw [b] at z
    simpa using z
  refine ⟨fun e => ?_, ?_⟩
  · rw [valV_put]
    unfold inB
    rw [List.any_append, List.any_cons, List.any_nil, Bool.or_false]
    by_cases c : s.ow = e.ow ∧ s.wd = e.wd
    · rw [if_pos (by rw [c.1, c.2]), decide_eq_true c, Bool.or_true]
      rfl
    · rw [if_neg (fun k => c ((ky_inj k).elim fun a b => ⟨a.symm, b.symm⟩)), decide_eq_false c, Bool.or_false]
      exact h.is e
  · rw [putK_new _ no, List.length_append, List.length_append]
    have := h.len
    simp
    omega
theorem En.ext' {K : PySem.W.Frag} {G : Hp} {u : V} {e : En} (h : EnA K G u e) : ∃ t ow sn, u = .ref t ∧ G t = some (.tup [.ref ow, .str e.wd, .int e.val, .ref sn]) ∧ Dp K G (.ref ow) (owD e.ow) ∧ OwOk e.ow ∧ Lt 1 8 e.wd ∧ G sn = some (.tup (e.seen.map V.int)) := by
  obtain ⟨t, ow, sn, h1, h2, h3, h4⟩ := h
  obtain ⟨a, rfl⟩ := ow_ref h3
  exact ⟨t, a, sn, h1, h2, h3, h4⟩
theorem Sep.pull {G H : Hp} {M : List (Addr × HO)} : ∀ {A : List (Addr × HO)} {q : Addr × HO}, Sep G (A ++ q :: M) H → Sep G (q :: (A ++ M)) H := fun {A q} S => S.perm List.perm_middle
theorem Sep.push {G H : Hp} {M : List (Addr × HO)} : ∀ {A : List (Addr × HO)} {q : Addr × HO}, Sep G (q :: (A ++ M)) H → Sep G (A ++ q :: M) H := fun {A q} S => S.perm List.perm_middle.symm
theorem Sep.setAt {G H : Hp} {M A : List (Addr × HO)} {a : Addr} {o o' : HO} (S : Sep G (A ++ (a, o) :: M) H) : Sep G (A ++ (a, o') :: M) (upd H a o') := Sep.push (Sep.set (Sep.pull S))
theorem Sep.here {G H : Hp} {M A : List (Addr × HO)} {a : Addr} {o : HO} (S : Sep G (A ++ (a, o) :: M) H) : H a = some o := Sep.hd (Sep.pull S)
theorem loop_list {K : PySem.W.Frag} {a : Addr} {xs : List V} {H0 : Hp} {Qd : Hp → Prop} {body : V → Hp → (Hp → Prop) → Prop} (Pv : Nat → Hp → Prop) (h0 : Pv 0 H0) (hl : ∀ i H, i ≤ xs.length → Pv i H → SqL K H a xs)
    (hs : ∀ i x H, xs[i]? = some x → Pv i H → body x H (Pv (i + 1))) (hd : ∀ H, Pv xs.length H → Qd H) :
    ∃ W : Nat → Nat → Hp → Prop, (∃ m, W 0 m H0) ∧ ∀ i m H, W i m H →
      ((Itl K a).stop i H ∧ Qd H) ∨ ((Itl K a).go i H ∧ ∃ Nx : Hp → Prop, (∀ H', Nx H' → ∃ m', m' < m ∧ W (i + 1) m' H') ∧ ∀ x H', (Itl K a).yld i H x H' → body x H' Nx) := by
  refine ⟨fun i m H => m = xs.length - i ∧ i ≤ xs.length ∧ Pv i H, ⟨xs.length, by simp, Nat.zero_le _, h0⟩, ?_⟩
  rintro i m H ⟨rfl, hi, p⟩
  have q := hl i H hi p
  by_cases hlt : i < xs.length
  · refine .inr ⟨⟨xs, xs[i], q, by simp [hlt]⟩, Pv (i + 1), fun H' p' => ⟨xs.length - (i + 1), by omega, rfl, hlt, p'⟩, fun x H' y => ?_⟩
    obtain ⟨e, y⟩ := y
    subst e
    exact hs i x _ (y xs q) p
  · have e : i = xs.length := by omega
    subst e
    exact .inl ⟨⟨xs, q, Nat.le_refl _⟩, hd H p⟩
def spEInit (C : Addr) : Sp := fun vs H Q _ => ∃ (G : Hp) (M : List (Addr × HO)) (e de : Addr), vs = [.ref e] ∧ Sep G ((e, .ins C de []) :: M) H ∧ ∀ (l : Addr) (H' : Hp), Sep G ((e, .ins C de [("held", .ref l)]) :: (l, .lst []) :: M) H' → Q .non H'
theorem ok_EInit (T : Top K mg w) {k : Nat} : FnOk P w K mg base CX0 (k + 1) T.a_Effects_init T.d_Effects_init ["self"] (spEInit T.C_Effects) := by
  refine T.F_Effects_init.ok sc_Effects_init (fun vs H Q E h => ?_) (fun cdv A outer s H vs Q E hr h => ?_)
  · obtain ⟨G, M, e, de, rfl, _⟩ := h
    rfl
  · obtain ⟨G, M, e, de, rfl, S, q⟩ := h
    refine ⟨_, (pss_one (ps_fld (xv 0) (pe_lst pa_nil) rfl)), ?_⟩
    refine ⟨sz, fun l nl => ?_⟩
    have S1 := (S.new (o := .lst []) nl).sw
    exact ⟨e, T.C_Effects, de, [], rfl, S1.hd, T.cl_Effects, T.na_Effects_held, by decide, q l _ S1.set⟩
def spArmed (K : PySem.W.Frag) (C : Addr) : Sp := fun vs H Q _ => ∃ (G : Hp) (M : List (Addr × HO)) (e de l : Addr) (es : List V) (hs : List En), vs = [.ref e] ∧ Sep G ((e, .ins C de [("held", .ref l)]) :: (l, .lst es) :: M) H ∧ Paired (EnA K G) es hs ∧ hs.length ≤ 1000 ∧
  ∀ (D : Addr) (us : List V) (G' H' : Hp), Same G G' → Sep G' ((D, .lst us) :: (e, .ins C de [("held", .ref l)]) :: (l, .lst es) :: M) H' → Paired (ArA K G') us (hs.map En.ar) → Q (.ref D) H'
theorem ok_armed (T : Top K mg w) {k : Nat} : FnOk P w K mg base CX0 (k + 1) T.a_Effects_armed T.d_Effects_armed ["self"] (spArmed K T.C_Effects) := by
  refine T.F_Effects_armed.ok sc_Effects_armed (fun vs H Q E h => ?_) (fun cdv A outer s H vs Q E hr h => ?_)
  · obtain ⟨G, M, e, de, l, es, hs, rfl, _⟩ := h
    rfl
  · obtain ⟨G, M, e, de, l, es, hs, rfl, S, he, hl, q⟩ := h
    refine ⟨_, (pss_one (ps_ret (pe_lc (own := [("entry", 1)]) (by rfl) sc_Effects_armed.nd (pi_listK K (pe_fldK K (xv 0))) (blkOk_by (N := ["self", "entry"]) (sc := defScope s_Effects_armed) (by decide +kernel)) (fun _ _ _ _ _ => (pg_name (i := 1) sc_Effects_armed.nd rfl (.inl rfl))) (fun _ _ _ _ _ => pts_nil) (fun _ _ _ _ _ => (pe_tup (pa_cons (pe_ix (ix_k K) (xv 1) pe_int (fun _ _ => rfl)) (pa_cons (pe_ix (ix_k K) (xv 1) pe_int (fun _ _ => rfl)) (pa_cons (pe_ix (ix_k K) (xv 1) pe_int (fun _ _ => rfl)) pa_nil)))))))), ?_⟩
    have el := prd_len he
    refine ⟨e, T.C_Effects, de, _, .ref l, rfl, S.hd, T.cl_Effects, T.na_Effects_held, rfl, l, rfl, ⟨_, SqL.of S.sw.hd⟩, fun D nD => lc_list (xs := es) (fun i H' => ∃ (G' : Hp) (us : List V), Same G G' ∧ Paired (ArA K G') us ((hs.take i).map En.ar) ∧ Sep G' ((D, .lst us) :: (e, .ins T.C_Effects de [("held", .ref l)]) :: (l, .lst es) :: M) H') ⟨G, [], Same.refl _, .nil, S.new nD⟩ (fun i H' _ h => ?_) (fun i x H' hx h => ⟨rfl, ?_⟩) (fun H' h => ?_)⟩
    · obtain ⟨_, _, _, _, S'⟩ := h
      exact SqL.of S'.drop.sw.hd
    · obtain ⟨G1, us, s1, hus, S1⟩ := h
      obtain ⟨y, hy, t, ow, sn, rfl, ht, how, hok, lt, hsn⟩ := prd_get he hx
      have iy := (List.getElem?_eq_some_iff.mp hy).1
      have ul := prd_len hus
      rw [List.length_map, List.length_take] at ul
      have hT := SqT.of (K := K) (S1.st (s1 _ _ ht))
      refine ⟨_, _, .inr hT, at0, _, .str y.wd, .inr hT, rfl, _, .int y.val, .inr hT, rfl, sz, fun r nr => ?_⟩
      obtain ⟨G2, s2, S2, h2⟩ := Sep.mk (o := .tup [ow, .str y.wd, .int y.val]) S1 nr
      refine ⟨us, S2.hd, smallL (by omega), G2, us ++ [.ref r], s1.trans s2, ?_, S2.set⟩
      rw [take_snoc hy, List.map_append]
      exact prd_app (prd_same s2 hus) (.cons ⟨r, ow, rfl, h2, OwV.of (dp_same (s1.trans s2) how), lt⟩ .nil)
    · obtain ⟨G1, us, s1, hus, S1⟩ := h
      rw [el, List.take_length] at hus
      exact q D us G1 H' s1 S1 hus
def spBring (K : PySem.W.Frag) (C : Addr) : Sp := fun vs H Q _ => ∃ (G : Hp) (M : List (Addr × HO)) (e z de l : Addr) (hv zs : List V) (hs es : List En), vs = [.ref e, .ref z] ∧ Sep G ((e, .ins C de [("held", .ref l)]) :: (l, .lst hv) :: M) H ∧ Paired (EnA K G) hv hs ∧ SqL K G z zs ∧ Paired (EnA K G) zs es ∧
  (hs.map En.pr).Nodup ∧ (es.map En.pr).Nodup ∧ hs.length ≤ 1000 ∧ es.length ≤ 1000 ∧
  ∀ (D St : Addr) (lg ss : List V) (G' H' : Hp), Same G G' → Sep G' ((D, .lst lg) :: (e, .ins C de [("held", .ref St)]) :: (St, .lst ss) :: M) H' → Paired (RwA K G') lg (logB hs es) → Paired (EnA K G') ss (heldB hs es) → Q (.ref D) H'
theorem ok_bring (T : Top K mg w) {k : Nat} : FnOk P w K mg base CX0 (k + 12) T.a_Effects_bring T.d_Effects_bring ["self", "entries"] (spBring K T.C_Effects) := by
  refine T.F_Effects_bring.ok sc_Effects_bring (fun vs H Q E h => ?_) (fun cdv A outer s H vs Q E hr h => ?_)
  · obtain ⟨G, M, e, z, de, l, hv, zs, hs, es, rfl, _⟩ := h
    rfl
  · obtain ⟨G, M, e, z, de, l, hv, zs, hs, es, rfl, S, hh, hz, he, nh, ne, lh, le, q⟩ := h
    refine ⟨_, (pss_cons (ps_set (i := 2) sc_Effects_bring.nd rfl (.inl rfl) (pe_dnewD K w))
      (pss_cons (ps_for PassesOwn.never rfl (pi_listK K (xv 1)) (pg_tupK K 4 (pgs_cons (pg_name (i := 3) sc_Effects_bring.nd rfl (.inl rfl)) (pgs_cons (pg_name (i := 4) sc_Effects_bring.nd rfl (.inl rfl)) (pgs_cons (pg_name (i := 5) sc_Effects_bring.nd rfl (.inl rfl)) (pgs_cons (pg_name (i := 6) sc_Effects_bring.nd rfl (.inl rfl)) pgs_nil)))))
      (pss_cons (xs_if (pt_cmp (pc_ddin K w hr.u9 (pe_tup (pa_cons (xv 3) (pa_cons (xv 4) pa_nil))) (xv 2)))
      (pss_one ps_never)
      pss_nil)
      (pss_one (ps_ddput K w hr.u9 (xv 2) (pe_tup (pa_cons (xv 3) (pa_cons (xv 4) pa_nil))) (xv 6) rfl))))
      (pss_cons (ps_set (i := 7) sc_Effects_bring.nd rfl (.inl rfl) (pe_lst pa_nil))
      (pss_cons (ps_set (i := 8) sc_Effects_bring.nd rfl (.inl rfl) (pe_lst pa_nil))
      (pss_cons (ps_for PassesOwn.never rfl (pi_listK K (pe_fldK K (xv 0))) (pg_name (i := 9) sc_Effects_bring.nd rfl (.inl rfl))
      (pss_cons (ps_set (i := 10) sc_Effects_bring.nd rfl (.inl rfl) (pe_tup (pa_cons (pe_ix (ix_k K) (xv 9) pe_int (fun _ _ => rfl)) (pa_cons (pe_ix (ix_k K) (xv 9) pe_int (fun _ _ => rfl)) pa_nil))))
      (pss_one (xs_if (PW.pt (xw_and (pt_cmp (pc_ddin K w hr.u9 (xv 10) (xv 2))) (pw_and1 (xt_cmp (op_eqLK K hr.u190) (pe_ddget K w hr.u9 (xv 2) (xv 10) (fun _ _ => rfl)) (pe_ix (ix_k K) (xv 9) pe_int (fun _ _ => rfl)) (nomark _)))))
      (pss_one (ps_expr (pe_bmK K PySem.F.plainAttrs_list PySem.F.slot_list_append PySem.F.type_list_append mt_append (xv 7) (pa_cons (xv 9) pa_nil))))
      (pss_one (ps_expr (pe_bmK K PySem.F.plainAttrs_list PySem.F.slot_list_append PySem.F.type_list_append mt_append (xv 8) (pa_cons (xv 9) pa_nil))))))))
      (pss_cons (ps_setLc (i := 11) (own := [("entry", 9)]) (by rfl) sc_Effects_bring.nd rfl rfl (sw_true rfl rfl rfl (by decide +kernel)) (pi_listK K (pe_revK K (xv 8) (pe_str (pe_un un_neg pe_int) fun _ _ _ h => ⟨1, rfl, h⟩))) (blkOk_by (N := ["self", "entries", "wanted", "owner", "word", "value", "seen", "stays", "goes", "entry", "pair", "log", "kept"]) (sc := defScope s_Effects_bring) (by decide +kernel)) (fun _ _ _ _ _ => (pg_name (i := 9) sc_Effects_bring.nd rfl (.inl rfl))) (fun _ _ _ _ _ => pts_nil) (fun _ _ _ _ _ => (pe_tup (pa_cons pe_str (pa_cons (pe_ix (ix_k K) (xv 9) pe_int (fun _ _ => rfl)) (pa_cons (pe_ix (ix_k K) (xv 9) pe_int (fun _ _ => rfl)) (pa_cons (pe_ix (ix_k K) (xv 9) pe_int (fun _ _ => rfl)) pa_nil)))))))
      (pss_cons (ps_setDcD K w hr.u9 (i := 12) (own := [("entry", 9)]) (by rfl) sc_Effects_bring.nd rfl rfl (sw_trueD rfl rfl rfl (by decide +kernel)) (pi_listK K (xv 7)) (blkOk_by (N := ["self", "entries", "wanted", "owner", "word", "value", "seen", "stays", "goes", "entry", "pair", "log", "kept"]) (sc := defScope s_Effects_bring) (by decide +kernel)) (fun _ _ _ _ _ => (pg_name (i := 9) sc_Effects_bring.nd rfl (.inl rfl))) (fun _ _ _ _ _ => pts_nil) (fun _ _ _ _ _ => (pe_tup (pa_cons (pe_ix (ix_k K) (xv 9) pe_int (fun _ _ => rfl)) (pa_cons (pe_ix (ix_k K) (xv 9) pe_int (fun _ _ => rfl)) pa_nil)))) (fun _ _ _ _ _ => pe_bl))
      (pss_cons (ps_for PassesOwn.never rfl (pi_listK K (xv 1)) (pg_tupK K 4 (pgs_cons (pg_name (i := 3) sc_Effects_bring.nd rfl (.inl rfl)) (pgs_cons (pg_name (i := 4) sc_Effects_bring.nd rfl (.inl rfl)) (pgs_cons (pg_name (i := 5) sc_Effects_bring.nd rfl (.inl rfl)) (pgs_cons (pg_name (i := 6) sc_Effects_bring.nd rfl (.inl rfl)) pgs_nil)))))
      (pss_one (xs_if (pt_cmp (pc_ddnotin K w hr.u9 (pe_tup (pa_cons (xv 3) (pa_cons (xv 4) pa_nil))) (xv 12)))
      (pss_cons (ps_expr (pe_bmK K PySem.F.plainAttrs_list PySem.F.slot_list_append PySem.F.type_list_append mt_append (xv 7) (pa_cons (pe_tup (pa_cons (xv 3) (pa_cons (xv 4) (pa_cons (xv 5) (pa_cons (xv 6) pa_nil))))) pa_nil)))
      (pss_one (ps_expr (pe_bmK K PySem.F.plainAttrs_list PySem.F.slot_list_append PySem.F.type_list_append mt_append (xv 11) (pa_cons (pe_tup (pa_cons pe_str (pa_cons (xv 3) (pa_cons (xv 4) (pa_cons (xv 5) pa_nil))))) pa_nil)))))
      pss_nil)))
      (pss_cons (ps_fld (xv 0) (xv 7) rfl)
      (pss_one (ps_ret (xv 11)))))))))))), ?_⟩
    have hvl := prd_len hh
    have zsl := prd_len he
    -- what is wanted
    refine fun W o0 nW d0 => ?_
    have S1 := S.new (o := o0) nW
    refine ⟨z, rfl, ⟨_, S1.l hz⟩, for_list (xs := zs) (fun i σ H' => ∃ (G' : Hp) (o : HO) (kvs : List (PyData × V)) (y3 y4 y5 y6 y7 y8 y9 y10 y11 y12 : Option V), σ = [some (.ref e), some (.ref z), some (.ref W), y3, y4, y5, y6, y7, y8, y9, y10, y11, y12] ∧ Same G G' ∧ Wnt G' kvs (es.take i) ∧ DD K w G' W o kvs ∧ Sep G' ((W, o) :: (e, .ins T.C_Effects de [("held", .ref l)]) :: (l, .lst hv) :: M) H') ⟨G, o0, [], _, _, _, _, _, _, _, _, _, _, rfl, Same.refl _, Wnt.nil _, d0 G, S1⟩ (fun i σ H' _ h => ?_) (fun i x σ H' hx h => ?_) (fun σ H2 h => ?_)⟩
    · obtain ⟨G2, o, kvs, _, _, _, _, _, _, _, _, _, _, _, s2, _, dd, S2⟩ := h
      exact S2.l (same_l s2 hz)
    · obtain ⟨G2, o, kvs, y3, y4, y5, y6, y7, y8, y9, y10, y11, y12, rfl, s2, wn, dd, S2⟩ := h
      obtain ⟨c, hc, t, ow, sn, rfl, ht, how, hok, lt, hsn⟩ := prd_get he hx
      have ic := (List.getElem?_eq_some_iff.mp hc).1
      have kl := wn.len
      rw [List.length_take] at kl
      have no : atW (es.take i) c.ow c.wd = none := by
        refine atW_no.mpr fun hm => ?_
        have e1 := take_snoc hc
        have n1 := (List.take_sublist (i + 1) es).map En.pr |>.nodup ne
        rw [e1, List.map_append, List.nodup_append] at n1
        exact n1.2.2 _ hm _ (show (c.ow, c.wd) ∈ [c].map En.pr from List.mem_singleton.mpr rfl) rfl
      refine ⟨t, _, rfl, S2.t (SqT.of (s2 _ _ ht)), rfl, _, _, rfl, _, _, rfl, _, _, rfl, _, _, rfl, rfl, ?_⟩
      refine ⟨sz, fun b nb => ?_⟩
      obtain ⟨G3, s3, S3, h3⟩ := Sep.mk (o := .tup [ow, .str c.wd]) S2 nb
      have how3 := dp_same (s2.trans s3) how
      refine ⟨W, b, o, kvs, _, rfl, rfl, S3.hd, (dd.same s3).same S3.1, (key_at h3 how3 lt).same S3.1, false, by rw [wn.no _ _ no]; rfl, ?_⟩
      refine ⟨(fun e => nomatch e), fun _ => ?_⟩
      refine ⟨sz, fun b2 nb2 => ?_⟩
      obtain ⟨G4, s4, S4, h4⟩ := Sep.mk (o := .tup [ow, .str c.wd]) S3 nb2
      have s24 := (s2.trans s3).trans s4
      refine ⟨G4, W, b2, o, kvs, _, rfl, rfl, S4.hd, S4.1, (dd.same s3).same s4, key_at h4 (dp_same s4 how3) lt, smallL (by omega), fun o' d' => ?_⟩
      refine ⟨G4, o', _, _, _, _, _, _, _, _, _, _, _, rfl, s24, ?_, d', S4.set⟩
      rw [take_snoc hc]
      exact ((wn.same s3).same s4).put no (s24 _ _ hsn)
    obtain ⟨G2, ow2, kvs, y3, y4, y5, y6, y7, y8, y9, y10, y11, y12, rfl, s2, wn, dd, S2⟩ := h
    rw [zsl, List.take_length] at wn
    refine ⟨sz, fun St nSt => ⟨sz, fun Go nGo => ?_⟩⟩
    have S3 := (S2.new (o := .lst []) nSt).new (o := .lst []) nGo
    -- what stays, what goes
    have hh2 := prd_sameE s2 hh
    have he2 := prd_sameE s2 he
    have hz2 := same_l s2 hz
    refine ⟨e, T.C_Effects, de, _, .ref l, rfl, Sep.here (A := [_, _, _]) S3, T.cl_Effects, T.na_Effects_held, rfl, l, rfl, ⟨_, SqL.of (Sep.here (A := [_, _, _, _]) S3)⟩, for_list (xs := hv) (fun i σ H' => ∃ (G' : Hp) (ss gg : List V) (y3 y4 y5 y6 y9 y10 y11 y12 : Option V), σ = [some (.ref e), some (.ref z), some (.ref W), y3, y4, y5, y6, some (.ref St), some (.ref Go), y9, y10, y11, y12] ∧ Same G2 G' ∧ Paired (EnA K G') ss (stays (hs.take i) es) ∧ Paired (EnA K G') gg (goes (hs.take i) es) ∧
      Sep G' ((Go, .lst gg) :: (St, .lst ss) :: (W, ow2) :: (e, .ins T.C_Effects de [("held", .ref l)]) :: (l, .lst hv) :: M) H') ⟨G2, [], [], _, _, _, _, _, _, _, _, rfl, Same.refl _, .nil, .nil, S3⟩ (fun i σ H' _ h => ?_) (fun i x σ H' hx h => ?_) (fun σ H4 h => ?_)⟩
    · obtain ⟨G4, ss, gg, _, _, _, _, _, _, _, _, _, _, _, _, S4⟩ := h
      exact SqL.of (Sep.here (A := [_, _, _, _]) S4)
    · obtain ⟨G4, ss, gg, y3, y4, y5, y6, y9, y10, y11, y12, rfl, s4, hss, hgg, S4⟩ := h
      obtain ⟨d, hd, hdA⟩ := prd_get hh2 hx
      obtain ⟨t0, ow0, sn0, rfl, ht0, how0, hok0, lt0, hsn0⟩ := En.ext' hdA
      have idl := (List.getElem?_eq_some_iff.mp hd).1
      have ssl : ss.length ≤ 1000 := by
        rw [prd_len hss]
        unfold stays
        have := List.length_filter_le (stayB es) (hs.take i)
        rw [List.length_take] at this
        omega
      have ggl : gg.length ≤ 1000 := by
        rw [prd_len hgg]
        unfold goes
        have := List.length_filter_le (fun h => !stayB es h) (hs.take i)
        rw [List.length_take] at this
        omega
      have ss1 : stays (hs.take (i + 1)) es = stays (hs.take i) es ++ (if stayB es d = true then [d] else []) := by rw [take_snoc hd]; exact filter_snoc _ _ _
      have gg1 : goes (hs.take (i + 1)) es = goes (hs.take i) es ++ (if (!stayB es d) = true then [d] else []) := by rw [take_snoc hd]; exact filter_snoc _ _ _
      have hT := SqT.of (K := K) (s4 _ _ ht0)
      refine ⟨_, _, .inr (S4.t hT), at0, _, .str d.wd, .inr (S4.t hT), rfl, sz, fun b nb => ?_⟩
      obtain ⟨G5, s5, S5, h5⟩ := Sep.mk (o := .tup [.ref ow0, .str d.wd]) S4 nb
      have s45 := s4.trans s5
      have hW := Sep.here (A := [_, _]) S5
      have dd5 := (dd.same s45).same S5.1
      have kv5 := (key_at (K := K) h5 (dp_same s45 how0) lt0).same S5.1
      have hss5 := prd_sameE s5 hss
      have hgg5 := prd_sameE s5 hgg
      have yes : stayB es d = true → ∀ H6, Sep G5 ((Go, .lst gg) :: (St, .lst ss) :: (W, ow2) :: (e, .ins T.C_Effects de [("held", .ref l)]) :: (l, .lst hv) :: M) H6 → ∀ y10, ∃ (G' : Hp) (ss' gg : List V) (y3' y4' y5' y6' y9 y10' y11' y12' : Option V), ([some (.ref e), some (.ref z), some (.ref W), y3, y4, y5, y6, some (.ref St), some (.ref Go), some (.ref t0), y10, y11, y12] : L2.St) = [some (.ref e), some (.ref z), some (.ref W), y3', y4', y5', y6', some (.ref St), some (.ref Go), y9, y10', y11', y12'] ∧ Same G2 G' ∧ Paired (EnA K G') ss' (stays (hs.take (i + 1)) es) ∧ Paired (EnA K G') gg (goes (hs.take (i + 1)) es) ∧
          Sep G' ((Go, .lst gg) :: (St, .lst ss') :: (W, ow2) :: (e, .ins T.C_Effects de [("held", .ref l)]) :: (l, .lst hv) :: M) (upd H6 St (.lst (ss ++ [.ref t0]))) := fun sb H6 S6 y10 => by
        refine ⟨G5, ss ++ [V.ref t0], gg, _, _, _, _, _, _, _, _, rfl, s45, ?_, ?_, Sep.setAt (A := [_]) (o' := .lst (ss ++ [V.ref t0])) S6⟩
        · rw [ss1, sb, if_pos rfl]
          exact prd_app hss5 (.cons (hdA.same s45) .nil)
        · rw [gg1, sb, if_neg (by decide), List.append_nil]
          exact hgg5
      have nay : stayB es d = false → ∀ H6, Sep G5 ((Go, .lst gg) :: (St, .lst ss) :: (W, ow2) :: (e, .ins T.C_Effects de [("held", .ref l)]) :: (l, .lst hv) :: M) H6 → ∀ y10, ∃ (G' : Hp) (ss gg' : List V) (y3' y4' y5' y6' y9 y10' y11' y12' : Option V), ([some (.ref e), some (.ref z), some (.ref W), y3, y4, y5, y6, some (.ref St), some (.ref Go), some (.ref t0), y10, y11, y12] : L2.St) = [some (.ref e), some (.ref z), some (.ref W), y3', y4', y5', y6', some (.ref St), some (.ref Go), y9, y10', y11', y12'] ∧ Same G2 G' ∧ Paired (EnA K G') ss (stays (hs.take (i + 1)) es) ∧ Paired (EnA K G') gg' (goes (hs.take (i + 1)) es) ∧
          Sep G' ((Go, .lst gg') :: (St, .lst ss) :: (W, ow2) :: (e, .ins T.C_Effects de [("held", .ref l)]) :: (l, .lst hv) :: M) (upd H6 Go (.lst (gg ++ [.ref t0]))) := fun sb H6 S6 y10 => by
        refine ⟨G5, ss, gg ++ [.ref t0], _, _, _, _, _, _, _, _, rfl, s45, ?_, ?_, S6.set⟩
        · rw [ss1, sb, if_neg (by decide), List.append_nil]
          exact hss5
        · rw [gg1, sb, if_pos (show (!false) = true from rfl)]
          exact prd_app hgg5 (.cons (hdA.same s45) .nil)
      cases aw : atW es d.ow d.wd with
      | none =>
        have sb : stayB es d = false := by unfold stayB; rw [aw]; rfl
        refine ⟨W, b, ow2, _, _, rfl, rfl, hW, dd5, kv5, false, by rw [wn.no _ _ aw]; rfl, (fun e => nomatch e), fun _ => ⟨(fun e => nomatch e), fun _ => ?_⟩⟩
        exact ⟨.inl ⟨rfl, _, SqL.of S5.hd⟩, Go, _, _, rfl, rfl, S5.hd, smallL (by omega), nay sb _ S5 _⟩
      | some ns =>
        obtain ⟨sn, g5, hsn⟩ := wn.is _ _ _ aw
        refine ⟨W, b, ow2, _, _, rfl, rfl, hW, dd5, kv5, true, by rw [g5]; rfl, fun _ => ?_, (fun e => nomatch e)⟩
        refine ⟨W, b, ow2, _, _, _, rfl, rfl, hW, dd5, kv5, g5, _, .ref sn0, .inr (S5.t (same_t s5 hT)), rfl, itD ns, itD d.seen, dp_it (S5.st (s45 _ _ hsn)), dp_it (S5.st (s45 _ _ hsn0)), lay_it _, lay_it _, dep_it _, ?_⟩
        rw [eqv_it]
        refine ⟨fun e => ?_, fun e => ?_⟩
        · have ec := of_decide_eq_true e
          have sb : stayB es d = true := by unfold stayB; rw [aw, ec]; exact decide_eq_true rfl
          exact ⟨.inl ⟨rfl, _, SqL.of (Sep.here (A := [_]) S5)⟩, St, _, _, rfl, rfl, Sep.here (A := [_]) S5, smallL (by omega), yes sb _ S5 _⟩
        · have nc := of_decide_eq_false e
          have sb : stayB es d = false := by unfold stayB; rw [aw]; exact decide_eq_false fun z => nc (by cases z; rfl)
          exact ⟨.inl ⟨rfl, _, SqL.of S5.hd⟩, Go, _, _, rfl, rfl, S5.hd, smallL (by omega), nay sb _ S5 _⟩
    obtain ⟨G4, ss, gg, y3, y4, y5, y6, y9, y10, y11, y12, rfl, s4, hss, hgg, S4⟩ := h
    rw [hvl, List.take_length] at hss hgg
    have ssl : (stays hs es).length ≤ 1000 := Nat.le_trans (List.length_filter_le _ _) lh
    have ggl : (goes hs es).length ≤ 1000 := Nat.le_trans (List.length_filter_le _ _) lh
    have ssv := prd_len hss
    have ggv := prd_len hgg
    have S5 := Sep.drop (Sep.pull (A := [_, _]) S4)
    refine ⟨Go, gg, rfl, SqL.of S5.hd, fun R nR => ?_⟩
    have S6 := (S5.new (o := .lst gg.reverse) nR).sw.drop
    have hgr : Paired (EnA K G4) gg.reverse (goes hs es).reverse := prd_rev hgg
    refine ⟨R, rfl, ⟨_, SqL.of S6.hd⟩, fun Lg nLg => lc_list (xs := gg.reverse) (fun i H' => ∃ (G' : Hp) (us : List V), Same G4 G' ∧ Paired (RwA K G') us (((goes hs es).reverse.take i).map En.off) ∧ Sep G' ((Lg, .lst us) :: (R, .lst gg.reverse) :: (St, .lst ss) :: (e, .ins T.C_Effects de [("held", .ref l)]) :: (l, .lst hv) :: M) H') ⟨G4, [], Same.refl _, .nil, S6.new nLg⟩ (fun i H' _ h => ?_) (fun i x H' hx h => ⟨rfl, ?_⟩) (fun H6 h => ?_)⟩
    · obtain ⟨G7, us, _, _, S7⟩ := h
      exact SqL.of S7.sw.hd
    · obtain ⟨G7, us, s7, hus, S7⟩ := h
      obtain ⟨d, hd, t0, ow0, sn0, rfl, ht0, how0, hok0, lt0, hsn0⟩ := prd_get hgr hx
      have il := (List.getElem?_eq_some_iff.mp hd).1
      have ul := prd_len hus
      rw [List.length_map, List.length_take, List.length_reverse] at ul
      have hT := S7.t (SqT.of (K := K) (s7 _ _ ht0))
      refine ⟨_, _, .inr hT, at0, _, .str d.wd, .inr hT, rfl, _, .int d.val, .inr hT, rfl, sz, fun r nr => ?_⟩
      obtain ⟨G8, s8, S8, h8⟩ := Sep.mk (o := .tup [.str "clean", ow0, .str d.wd, .int d.val]) S7 nr
      refine ⟨us, S8.hd, smallL (by omega), G8, us ++ [.ref r], s7.trans s8, ?_, S8.set⟩
      rw [take_snoc hd, List.map_append]
      exact prd_app (prd_sameR s8 hus) (.cons ⟨r, ow0, rfl, h8, dp_same (s7.trans s8) how0, hok0, lt0⟩ .nil)
    obtain ⟨G7, lg, s7, hlg, S7⟩ := h
    rw [List.length_reverse, ggv, ← List.length_reverse, List.take_length] at hlg
    have S8 := S7.sw.drop
    have hss7 := prd_sameE s7 hss
    have nss : ((stays hs es).map En.pr).Nodup := (List.filter_sublist.map _).nodup nh
    refine ⟨St, rfl, ⟨_, SqL.of S8.sw.hd⟩, fun Kp o1 nKp d1 => loop_list (xs := ss) (fun i H' => ∃ (G' : Hp) (o : HO) (kvs : List (PyData × V)), Same G7 G' ∧ Kpt kvs ((stays hs es).take i) ∧ DD K w G' Kp o kvs ∧ Sep G' ((Kp, o) :: (Lg, .lst lg) :: (St, .lst ss) :: (e, .ins T.C_Effects de [("held", .ref l)]) :: (l, .lst hv) :: M) H') ⟨G7, o1, [], Same.refl _, ⟨fun _ => rfl, Nat.zero_le _⟩, d1 G7, S8.new nKp⟩ (fun i H' _ h => ?_) (fun i x H' hx h => ?_) (fun H8 h => ?_)⟩
    · obtain ⟨_, _, _, _, _, _, S'⟩ := h
      exact SqL.of (Sep.here (A := [_, _]) S')
    · obtain ⟨G9, o, kvs, s9, kp, dd9, S9⟩ := h
      obtain ⟨d, hd, t0, ow0, sn0, rfl, ht0, how0, hok0, lt0, hsn0⟩ := prd_get hss7 hx
      have il := (List.getElem?_eq_some_iff.mp hd).1
      have kl := kp.len
      rw [List.length_take] at kl
      have hT := S9.t (SqT.of (K := K) (s9 _ _ ht0))
      refine ⟨rfl, _, _, .inr hT, at0, _, .str d.wd, .inr hT, rfl, sz, fun b nb => ?_⟩
      obtain ⟨G10, s10, S10, h10⟩ := Sep.mk (o := .tup [ow0, .str d.wd]) S9 nb
      refine ⟨G10, b, o, kvs, kyD d.ow d.wd, rfl, S10.hd, S10.1, dd9.same s10, key_at h10 (dp_same (s9.trans s10) how0) lt0, smallL (by omega), fun o' d' => ⟨G10, o', _, s9.trans s10, ?_, d', S10.set⟩⟩
      rw [take_snoc hd]
      refine kp.put fun hm => ?_
      have n1 := (List.take_sublist (i + 1) (stays hs es)).map En.pr |>.nodup nss
      rw [take_snoc hd, List.map_append, List.nodup_append] at n1
      exact n1.2.2 _ hm _ (by simp) rfl
    obtain ⟨G9, o9, kvs9, s9, kp, dd9, S9⟩ := h
    rw [ssv, List.take_length] at kp
    have s29 := (s4.trans s7).trans s9
    have hss9 := prd_sameE s9 hss7
    have hlg9 := prd_sameR s9 hlg
    refine ⟨z, rfl, ⟨_, S9.l (same_l s29 hz2)⟩, for_list (xs := zs) (fun i σ H' => ∃ (G' : Hp) (ss' lg' : List V) (y3 y4 y5 y6 y9 y10 : Option V), σ = [some (.ref e), some (.ref z), some (.ref W), y3, y4, y5, y6, some (.ref St), some (.ref Go), y9, y10, some (.ref Lg), some (.ref Kp)] ∧ Same G9 G' ∧ Paired (EnA K G') ss' (stays hs es ++ (es.take i).filter fun e => !inB (stays hs es) e) ∧ Paired (RwA K G') lg' ((goes hs es).reverse.map En.off ++ ((es.take i).filter fun e => !inB (stays hs es) e).map En.on) ∧
      Sep G' ((Kp, o9) :: (Lg, .lst lg') :: (St, .lst ss') :: (e, .ins T.C_Effects de [("held", .ref l)]) :: (l, .lst hv) :: M) H') ⟨G9, ss, lg, _, _, _, _, _, _, rfl, Same.refl _, by rw [List.take_zero, List.filter_nil, List.append_nil]; exact hss9, by rw [List.take_zero, List.filter_nil, List.map_nil, List.append_nil]; exact hlg9, S9⟩ (fun i σ H' _ h => ?_) (fun i x σ H' hx h => ?_) (fun σ H9 h => ?_)⟩
    · obtain ⟨G10, _, _, _, _, _, _, _, _, _, s10, _, _, S10⟩ := h
      exact S10.l (same_l (s29.trans s10) hz2)
    · obtain ⟨G10, ss', lg', y3, y4, y5, y6, y9, y10, rfl, s10, hss', hlg', S10⟩ := h
      obtain ⟨c, hc, t, ow, sn, rfl, ht, how, hok, lt, hsn⟩ := prd_get he2 hx
      have ic := (List.getElem?_eq_some_iff.mp hc).1
      have fl := List.length_filter_le (fun e => !inB (stays hs es) e) (es.take i)
      rw [List.length_take] at fl
      have sl' := prd_len hss'
      have ll' := prd_len hlg'
      rw [List.length_append] at sl' ll'
      rw [List.length_map, List.length_map, List.length_reverse] at ll'
      have s210 := s29.trans s10
      have fs : (es.take (i + 1)).filter (fun e => !inB (stays hs es) e) = (es.take i).filter (fun e => !inB (stays hs es) e) ++ (if (!inB (stays hs es) c) = true then [c] else []) := by
        rw [take_snoc hc]
        exact filter_snoc _ _ _
      refine ⟨t, _, rfl, S10.t (SqT.of (s210 _ _ ht)), rfl, _, _, rfl, _, _, rfl, _, _, rfl, _, _, rfl, rfl, ?_⟩
      refine ⟨sz, fun b nb => ?_⟩
      obtain ⟨G11, s11, S11, h11⟩ := Sep.mk (o := .tup [ow, .str c.wd]) S10 nb
      have s211 := s210.trans s11
      have kv := (key_at (K := K) h11 (dp_same s211 how) lt).same S11.1
      have dd11 := ((dd9.same s10).same s11).same S11.1
      cases ib : inB (stays hs es) c with
      | true =>
        rw [ib] at fs
        refine ⟨Kp, b, o9, _, _, rfl, rfl, S11.hd, dd11, kv, false, by rw [kp.is, ib]; rfl, (fun e => nomatch e), fun _ => ?_⟩
        refine ⟨G11, ss', lg', _, _, _, _, _, _, rfl, s10.trans s11, ?_, ?_, S11⟩
        · rw [fs, if_neg (by decide), List.append_nil]
          exact prd_sameE s11 hss'
        · rw [fs, if_neg (by decide), List.append_nil]
          exact prd_sameR s11 hlg'
      | false =>
        rw [ib] at fs
        refine ⟨Kp, b, o9, _, _, rfl, rfl, S11.hd, dd11, kv, true, by rw [kp.is, ib]; rfl, fun _ => ?_, (fun e => nomatch e)⟩
        refine ⟨.inl ⟨rfl, _, SqL.of (Sep.here (A := [_, _]) S11)⟩, sz, fun r nr => ?_⟩
        obtain ⟨G12, s12, S12, h12⟩ := Sep.mk (o := .tup [ow, .str c.wd, .int c.val, .ref sn]) S11 nr
        refine ⟨St, _, _, rfl, rfl, Sep.here (A := [_, _]) S12, smallL (by omega), ?_⟩
        have S13 := Sep.setAt (A := [_, _]) (o' := .lst (ss' ++ [.ref r])) S12
        refine ⟨.inl ⟨rfl, _, SqL.of S13.sw.hd⟩, sz, fun r2 nr2 => ?_⟩
        obtain ⟨G14, s14, S14, h14⟩ := Sep.mk (o := .tup [.str "arm", ow, .str c.wd, .int c.val]) S13 nr2
        refine ⟨Lg, _, _, rfl, rfl, S14.sw.hd, smallL (by omega), ?_⟩
        have s114 := (s11.trans s12).trans s14
        have s214 := (s211.trans s12).trans s14
        refine ⟨G14, _, _, _, _, _, _, _, _, rfl, s10.trans s114, ?_, ?_, Sep.setAt (A := [_]) S14⟩
        · rw [fs, if_pos (show (!false) = true from rfl), ← List.append_assoc]
          exact prd_app (prd_sameE s114 hss') (.cons ⟨r, ow, sn, rfl, s14 _ _ h12, dp_same s214 how, hok, lt, s214 _ _ hsn⟩ .nil)
        · rw [fs, if_pos (show (!false) = true from rfl), List.map_append, ← List.append_assoc]
          exact prd_app (prd_sameR s114 hlg') (.cons ⟨r2, ow, rfl, h14, dp_same s214 how, hok, lt⟩ .nil)
    obtain ⟨G10, ss', lg', y3, y4, y5, y6, y9, y10, rfl, s10, hss', hlg', S10⟩ := h
    rw [zsl, List.take_length] at hss' hlg'
    have S11 := S10.drop
    refine ⟨e, T.C_Effects, de, _, rfl, Sep.here (A := [_, _]) S11, T.cl_Effects, T.na_Effects_held, (show 1 < 1000 by decide), ?_⟩
    have S12 := Sep.setAt (A := [_, _]) (o' := .ins T.C_Effects de [("held", .ref St)]) S11
    have S13 := Sep.drop (Sep.pull (A := [_, _, _]) S12)
    have S14 := S13.perm (List.Perm.cons _ (List.Perm.swap _ _ _))
    exact q Lg St lg' ss' G10 _ (s2.trans (s29.trans s10)) S14 hlg' hss'

end
end K41
set_option Elab.async false
set_option linter.all false
set_option maxRecDepth 100000
set_option maxHeartbeats 4000000
namespace K41
open PySem PySem.Spec PyProof.Rows L2 XL
section
variable {P : Program} {w : World} {K : PySem.W.Frag} {mg : Str → Option Value} {base : Heap}
theorem Sep.tail {G H : Hp} {M : List (Addr × HO)} : ∀ {N : List (Addr × HO)}, Sep G (N ++ M) H → Sep G M H
  | [], S => S
  | _ :: _, S => Sep.tail (Sep.drop S)
theorem lk_ow (a b : V) : List.lookup (Str.ofString "owner") [(PySem.XExc2.wd, a), (PySem.XExc2.ow, b)] = some b := rfl
/-! ### what sound says -/
def spOutcome (K : PySem.W.Frag) : Sp := fun vs H Q _ => ∃ (G : Hp) (M : List (Addr × HO)) (L : Addr) (us : List V) (rs : List Rw), vs = [.ref L] ∧ Sep G M H ∧ SqL K G L us ∧ Paired (RwA K G) us rs ∧ rs.length ≤ 50000 ∧
  (∀ a, snd rs = some a → ∀ (t D : Addr) (ds : List V) (G' H' : Hp), Same G G' → G' t = some (.tup [.str "sound", .ref D]) → Sep G' ((D, .lst ds) :: M) H' → Paired (ArA K G') ds a → Q (.ref t) H') ∧
  (∀ pre r a b, Bad rs pre r a b → ∀ (t : Addr) (v : V) (G' H' : Hp), Same G G' → G' t = some (.tup [.str (wrd b), v, .str r.wd, .bl false]) → OwV K G' v r.ow → Sep G' M H' → Q (.ref t) H')
theorem ok_outcome (T : Top K mg w) (pf : PySem.XExc.PF P T.x_file) {k : Nat} (G_sound : FnOk P w K mg base (L2.CX P w) k T.a_sound T.d_sound ["log"] (spSound K T.C_ArmedTwice T.C_NotArmed T.C_OldValue)) : FnOk P w K mg base CX0 (k + 12) T.a_outcome T.d_outcome ["_law_log"] (spOutcome K) := by
  refine T.F_outcome.ok sc_outcome (fun vs H Q E h => ?_) (fun cdv A outer s H vs Q E hr h => ?_)
  · obtain ⟨G, M, L, us, rs, rfl, _⟩ := h
    rfl
  · obtain ⟨G, M, L, us, rs, rfl, S, hL, hp, hl, q, er⟩ := h
    refine ⟨_, (pss_cons (ps_try_manyAs (Wout := fun _ _ _ _ => False) rfl rfl sc_outcome.nd takes0
      (fun W pn xe tk _ => (pss_one (ps_set (i := 1) sc_outcome.nd rfl (.inl rfl) (pe_callS G_sound (hr.mono (by omega)) (by rfl) T.g_sound T.F_sound.kp T.b_sound (fun σ => passAt tk σ) (pa_cons (xv 0) pa_nil)))))
      (HdsAs.cons (i := 2) rfl rfl ⟨rfl, by decide, Or.inl T.g_ArmedTwice⟩ (fun a oe cls d pn hz hf => (pss_one (ps_ret (pe_tup (pa_cons pe_str (pa_cons (pe_xf T.xf_ArmedTwice (T.x_ArmedTwice P pf).no1 hz hf (xv 2)) (pa_cons (pe_xf T.xf_ArmedTwice (T.x_ArmedTwice P pf).no2 hz hf (xv 2)) (pa_cons (xe_or (pe_callB (call_isX hz hf) (by rfl) T.m_isinstance (by decide +kernel) (pa_cons (xv 2) (pa_cons (pe_glob (v := .ref T.C_NotArmed) (by rfl) T.g_NotArmed rfl) pa_nil))) (pe_one (pe_callB (call_isX hz hf) (by rfl) T.m_isinstance (by decide +kernel) (pa_cons (xv 2) (pa_cons (pe_glob (v := .ref T.C_OldValue) (by rfl) T.g_OldValue rfl) pa_nil))))) pa_nil))))))))
      (HdsAs.cons (i := 2) rfl rfl ⟨rfl, by decide, Or.inl T.g_NotArmed⟩ (fun a oe cls d pn hz hf => (pss_one (ps_ret (pe_tup (pa_cons pe_str (pa_cons (pe_xf T.xf_NotArmed (T.x_NotArmed P pf).no1 hz hf (xv 2)) (pa_cons (pe_xf T.xf_NotArmed (T.x_NotArmed P pf).no2 hz hf (xv 2)) (pa_cons (xe_or (pe_callB (call_isX hz hf) (by rfl) T.m_isinstance (by decide +kernel) (pa_cons (xv 2) (pa_cons (pe_glob (v := .ref T.C_ArmedTwice) (by rfl) T.g_ArmedTwice rfl) pa_nil))) (pe_one (pe_callB (call_isX hz hf) (by rfl) T.m_isinstance (by decide +kernel) (pa_cons (xv 2) (pa_cons (pe_glob (v := .ref T.C_OldValue) (by rfl) T.g_OldValue rfl) pa_nil))))) pa_nil))))))))
      (HdsAs.cons (i := 2) rfl rfl ⟨rfl, by decide, Or.inl T.g_OldValue⟩ (fun a oe cls d pn hz hf => (pss_one (ps_ret (pe_tup (pa_cons pe_str (pa_cons (pe_xf T.xf_OldValue (T.x_OldValue P pf).no1 hz hf (xv 2)) (pa_cons (pe_xf T.xf_OldValue (T.x_OldValue P pf).no2 hz hf (xv 2)) (pa_cons (xe_or (pe_callB (call_isX hz hf) (by rfl) T.m_isinstance (by decide +kernel) (pa_cons (xv 2) (pa_cons (pe_glob (v := .ref T.C_ArmedTwice) (by rfl) T.g_ArmedTwice rfl) pa_nil))) (pe_one (pe_callB (call_isX hz hf) (by rfl) T.m_isinstance (by decide +kernel) (pa_cons (xv 2) (pa_cons (pe_glob (v := .ref T.C_NotArmed) (by rfl) T.g_NotArmed rfl) pa_nil))))) pa_nil))))))))
      HdsAs.nil))))
      (pss_one (ps_ret (pe_tup (pa_cons pe_str (pa_cons (xv 1) pa_nil)))))), ?_⟩
    refine ⟨G, M, L, us, rs, rfl, S, hL, hp, hl, fun a ha D ds G' H' s' S' hd => ?_, fun pre r a b bd G' H' N v dd s' S' hv nd => ?_⟩
    · refine ⟨sz, fun t5 n5 => ?_⟩
      obtain ⟨G7, s7, S7, h7⟩ := Sep.mk (o := .tup [.str "sound", .ref D]) S' n5
      exact q a ha t5 D ds G7 _ (s'.trans s7) h7 S7 (prd_same s7 hd)
    · have S2 := S'.new (o := .xd [(PySem.XExc2.wd, .str r.wd), (PySem.XExc2.ow, v)]) nd
      have hx := S2.hd
      have done : ∀ t5, (upd H' dd (.xd [(PySem.XExc2.wd, .str r.wd), (PySem.XExc2.ow, v)])) t5 = none → Q (.ref t5) (upd (upd H' dd (.xd [(PySem.XExc2.wd, .str r.wd), (PySem.XExc2.ow, v)])) t5 (.tup [.str (wrd b), v, .str r.wd, .bl false])) := fun t5 n5 => by
        obtain ⟨G5, s5, S5, h5⟩ := Sep.mk (o := .xd [(PySem.XExc2.wd, .str r.wd), (PySem.XExc2.ow, v)]) (Sep.tail S') nd
        obtain ⟨G7, s7, S7, h7⟩ := Sep.mk (o := .tup [.str (wrd b), v, .str r.wd, .bl false]) S5 n5
        exact er pre r a b bd t5 v G7 _ ((s'.trans s5).trans s7) h7 (OwV.of (dp_same (s5.trans s7) hv)) S7
      have lk1 : List.lookup (Str.ofString "owner") [(PySem.XExc2.wd, V.str r.wd), (PySem.XExc2.ow, v)] = some v := lk_ow _ _
      have lk2 : List.lookup (Str.ofString "word") [(PySem.XExc2.wd, V.str r.wd), (PySem.XExc2.ow, v)] = some (.str r.wd) := rfl
      cases b with
      | twice =>
        refine ⟨true, T.em_ArmedTwice_ArmedTwice, fun _ => fun x nx => ?_, fun e => nomatch e⟩
        refine ⟨rfl, rfl, dd, _, _, rfl, hx, lk1, rfl, rfl, dd, _, _, rfl, hx, lk2, ?_⟩
        refine ⟨T.C_ArmedTwice, dd, _, false, rfl, rfl, hx, T.xc_ArmedTwice, .inl ⟨_, _, rfl, fun u r => r, T.ki_ArmedTwice_NotArmed⟩, ff, fun _ => ?_⟩
        refine ⟨T.C_ArmedTwice, dd, _, false, rfl, rfl, hx, T.xc_ArmedTwice, .inl ⟨_, _, rfl, fun u r => r, T.ki_ArmedTwice_OldValue⟩, ?_⟩
        refine ⟨sz, fun t5 n5 => ?_⟩
        exact done t5 n5
      | none =>
        refine ⟨false, T.em_NotArmed_ArmedTwice, (fun e => nomatch e), fun _ => ⟨true, T.em_NotArmed_NotArmed, fun _ => fun x nx => ?_, fun e => nomatch e⟩⟩
        refine ⟨rfl, rfl, dd, _, _, rfl, hx, lk1, rfl, rfl, dd, _, _, rfl, hx, lk2, ?_⟩
        refine ⟨T.C_NotArmed, dd, _, false, rfl, rfl, hx, T.xc_NotArmed, .inl ⟨_, _, rfl, fun u r => r, T.ki_NotArmed_ArmedTwice⟩, ff, fun _ => ?_⟩
        refine ⟨T.C_NotArmed, dd, _, false, rfl, rfl, hx, T.xc_NotArmed, .inl ⟨_, _, rfl, fun u r => r, T.ki_NotArmed_OldValue⟩, ?_⟩
        refine ⟨sz, fun t5 n5 => ?_⟩
        exact done t5 n5
      | old =>
        refine ⟨false, T.em_OldValue_ArmedTwice, (fun e => nomatch e), fun _ => ⟨false, T.em_OldValue_NotArmed, (fun e => nomatch e), fun _ => ⟨true, T.em_OldValue_OldValue, fun _ => fun x nx => ?_, fun e => nomatch e⟩⟩⟩
        refine ⟨rfl, rfl, dd, _, _, rfl, hx, lk1, rfl, rfl, dd, _, _, rfl, hx, lk2, ?_⟩
        refine ⟨T.C_OldValue, dd, _, false, rfl, rfl, hx, T.xc_OldValue, .inl ⟨_, _, rfl, fun u r => r, T.ki_OldValue_ArmedTwice⟩, ff, fun _ => ?_⟩
        refine ⟨T.C_OldValue, dd, _, false, rfl, rfl, hx, T.xc_OldValue, .inl ⟨_, _, rfl, fun u r => r, T.ki_OldValue_NotArmed⟩, ?_⟩
        refine ⟨sz, fun t5 n5 => ?_⟩
        exact done t5 n5

end
end K41
set_option Elab.async false
set_option linter.all false
set_option maxRecDepth 100000
set_option maxHeartbeats 4000000
namespace K41
open PySem PySem.Spec PyProof.Rows L2 XL
section
variable {P : Program} {w : World} {K : PySem.W.Frag} {mg : Str → Option Value} {base : Heap}
/-! ### two lists of rows are the same -/
theorem sqL_ty {K : PySem.W.Frag} {H : Hp} {a : Addr} {xs : List V} (h : SqL K H a xs) : TyX K H (.ref a) (.type "list") := by
  rcases h with (h | ⟨o, h⟩) | ⟨o, _, _, h, c, _⟩
  · exact .base (.lst h)
  · exact .base (.frz h)
  · exact .kList h c
def spSame (K : PySem.W.Frag) : Sp := fun vs H Q _ => ∃ (G : Hp) (M : List (Addr × HO)) (p r : Addr) (us ws : List V) (a : List Ar), vs = [.ref p, .ref r] ∧ Sep G M H ∧ (∀ G' H', Same G G' → Sep G' M H' → SqL K H' p us) ∧ SqL K H r ws ∧ Paired (ArA K G) us a ∧ Paired (ArA K G) ws a ∧
  ∀ (G' H' : Hp), Same G G' → Sep G' M H' → Q (.bl true) H'
theorem ok_same (T : Top K mg w) {k : Nat} : FnOk P w K mg base CX0 (k + 12) T.a_same T.d_same ["_law_told", "_law_due"] (spSame K) := by
  refine T.F_same.ok sc_same (fun vs H Q E h => ?_) (fun cdv A outer s H vs Q E hr h => ?_)
  · obtain ⟨G, M, p, r, us, ws, a, rfl, _⟩ := h
    rfl
  · obtain ⟨G, M, p, r, us, ws, a, rfl, S, hp, hr', hu, hw, q⟩ := h
    refine ⟨_, (pss_cons (xs_if (PW.pt (xw_or (pt_not (xt_truK K (pe_callB (call_isK K) (by rfl) T.m_isinstance (by decide +kernel) (pa_cons (xv 0) (pa_cons (pe_bltn (v := .ty "list") (by rfl) T.m_list (by decide +kernel) rfl) pa_nil))))) (pw_or1 (xt_cmp (op_neLK K hr.u190) (xv 0) (xv 1) (nomark _)))))
      (pss_one (ps_ret pe_bl))
      pss_nil)
      (pss_cons (ps_for PassesOwn.never rfl (pi_listK K (xv 0)) (pg_name (i := 2) sc_same.nd rfl (.inl rfl))
      (pss_one (xs_if (xt_cmp (op_neLK K hr.u190) (pe_lc (own := [("_law_part", 3)]) (by rfl) sc_same.nd (pi_tupK K (xv 2)) (blkOk_by (N := ["_law_told", "_law_due", "_law_row", "_law_part"]) (sc := defScope s_same) (by decide +kernel)) (fun _ _ _ _ _ => (pg_name (i := 3) sc_same.nd rfl (.inl rfl))) (fun _ _ _ _ _ => (pts_one (xt_truK K (pe_callB (call_isK K) (by rfl) T.m_isinstance (by decide +kernel) (pa_cons (xv 3) (pa_cons (pe_bltn (v := .ty "bool") (by rfl) T.m_bool (by decide +kernel) rfl) pa_nil)))))) (fun _ _ _ _ _ => (xv 3))) (pe_lst pa_nil) (nomark _))
      (pss_one (ps_ret pe_bl))
      pss_nil)))
      (pss_one (ps_ret pe_bl)))), ?_⟩
    have hP := hp G H (Same.refl _) S
    refine ⟨_, _, _, _, true, rfl, .ty _, sqL_ty hP, kit_ty (by decide +kernel), ff, fun _ => ?_⟩
    obtain ⟨d, d', h1, h2, h3, h4, h5, h6⟩ := nl_dat (m := 10) (by decide) hP hr' (prd_nv (prd_same S.1 hu)) (prd_nv (prd_same S.1 hw))
    rw [decide_eq_true rfl] at h6
    refine ⟨d, d', h1, h2, h3, h4, h5, ?_⟩
    rw [h6]
    refine ⟨ff, fun _ => ?_⟩
    refine ⟨p, rfl, ⟨_, hP⟩, for_list (xs := us) (fun i σ H' => ∃ (y2 y3 : Option V) (G' : Hp), σ = [some (.ref p), some (.ref r), y2, y3] ∧ Same G G' ∧ Sep G' M H') ⟨_, _, G, rfl, Same.refl _, S⟩ (fun i σ H' _ h => ?_) (fun i x σ H' hx h => ?_) (fun σ H' h => ?_)⟩
    · obtain ⟨_, _, G', _, s', S'⟩ := h
      exact hp G' H' s' S'
    · obtain ⟨y2, y3, G1, rfl, s1, S1⟩ := h
      obtain ⟨y, hy, t, ow, rfl, ht, how, lt⟩ := prd_get hu hx
      obtain ⟨wa, rfl⟩ := how.ref
      have hT := SqT.of (K := K) (s1 _ _ ht)
      have how1 := how.same s1
      obtain ⟨dow, dw1, dw2, dw3, dw4⟩ := how1
      obtain ⟨dws, rfl, _⟩ := nrm_tup dw4
      obtain ⟨a0, xs0, ea, hw0, _⟩ := dp_tup dw1
      cases ea
      refine ⟨t, rfl, ⟨_, S1.t hT⟩, fun D nD => lc_it (walk_tup (xs := [.ref wa, .str y.2.1, .int y.2.2])) (fun i H' => Sep G1 ((D, .lst []) :: M) H') (S1.new nD) (fun i H' _ h => h.t hT) (fun i x H' H'' hi h yy => ?_) (fun H' h => ?_)⟩
      · obtain ⟨rfl, hx'⟩ := yy
        match i, hx' with
        | 0, e => cases e; exact ⟨rfl, _, _, _, _, false, rfl, .ty _, sqT_ty (h.t hw0), kit_ty (by decide +kernel), h⟩
        | 1, e => cases e; exact ⟨rfl, _, _, _, _, false, rfl, .ty _, .base (.str _), kit_ty (by decide +kernel), h⟩
        | 2, e => cases e; exact ⟨rfl, _, _, _, _, false, rfl, .ty _, .base (.int _), kit_ty (by decide +kernel), h⟩
        | _ + 3, e => cases e
      · refine ⟨sz, fun Z nZ => ?_⟩
        have S3 := Sep.new (o := .lst []) h nZ
        obtain ⟨d, d', h1, h2, h3, h4, h5, h6⟩ := nl_dat (K := K) (m := 10) (es := []) (fs := []) (by decide) (SqL.of S3.sw.hd) (SqL.of S3.hd) .nil .nil
        rw [decide_eq_true rfl] at h6
        refine ⟨d, d', h1, h2, h3, h4, h5, ?_⟩
        rw [h6]
        exact ⟨ff, fun _ => ⟨_, _, G1, rfl, s1, S3.drop.drop⟩⟩
    · obtain ⟨y2, y3, G1, rfl, s1, S1⟩ := h
      exact q G1 H' s1 S1
/-! ### rows of a log -/
theorem dn_t : (!decide (dwd true = (Str.ofString "arm"))) = false := by decide +kernel
theorem dn_f : (!decide (dwd false = (Str.ofString "clean"))) = false := by decide +kernel
theorem dn_g : (!decide (dwd false = (Str.ofString "arm"))) = true := by decide +kernel
def spRows (K : PySem.W.Frag) : Sp := fun vs H Q _ => ∃ (G : Hp) (M : List (Addr × HO)) (L : Addr) (us : List V) (rs : List Rw), vs = [.ref L] ∧ Sep G M H ∧ SqL K G L us ∧ Paired (RwA K G) us rs ∧ Q (.bl true) H
theorem ok_rows (T : Top K mg w) {k : Nat} (G_number : FnOk P w K mg base CX0 k T.a_number T.d_number ["_law_thing"] spNumber) : FnOk P w K mg base CX0 (k + 12) T.a_rows T.d_rows ["_law_log"] (spRows K) := by
  refine T.F_rows.ok sc_rows (fun vs H Q E h => ?_) (fun cdv A outer s H vs Q E hr h => ?_)
  · obtain ⟨G, M, L, us, rs, rfl, _⟩ := h
    rfl
  · obtain ⟨G, M, L, us, rs, rfl, S, hL, hu, q⟩ := h
    refine ⟨_, (pss_cons (xs_if (pt_not (xt_truK K (pe_callB (call_isK K) (by rfl) T.m_isinstance (by decide +kernel) (pa_cons (xv 0) (pa_cons (pe_bltn (v := .ty "list") (by rfl) T.m_list (by decide +kernel) rfl) pa_nil)))))
      (pss_one (ps_ret pe_bl))
      pss_nil)
      (pss_cons (ps_for PassesOwn.never rfl (pi_listK K (xv 0)) (pg_name (i := 1) sc_rows.nd rfl (.inl rfl))
      (pss_cons (xs_if (PW.pt (xw_or (pt_not (xt_truK K (pe_callB (call_isK K) (by rfl) T.m_isinstance (by decide +kernel) (pa_cons (xv 1) (pa_cons (pe_bltn (v := .ty "tuple") (by rfl) T.m_tuple (by decide +kernel) rfl) pa_nil))))) (xw_or (xt_cmp (op_neLK K hr.u190) (pe_callB (cr_lenK K) (by rfl) T.m_len (by decide +kernel) (pa_cons (xv 1) pa_nil)) pe_int (nomark _)) (pw_or1 (pt_not (xt_truK K (pe_callB (call_isK K) (by rfl) T.m_isinstance (by decide +kernel) (pa_cons (pe_ix (ix_k K) (xv 1) pe_int (fun _ _ => rfl)) (pa_cons (pe_bltn (v := .ty "str") (by rfl) T.m_str (by decide +kernel) rfl) pa_nil)))))))))
      (pss_one (ps_ret pe_bl))
      pss_nil)
      (pss_cons (xs_if (PW.pt (xw_or (PW.pt (xw_and (xt_cmp (op_neLK K hr.u190) (pe_ix (ix_k K) (xv 1) pe_int (fun _ _ => rfl)) pe_str (nomark _)) (pw_and1 (xt_cmp (op_neLK K hr.u190) (pe_ix (ix_k K) (xv 1) pe_int (fun _ _ => rfl)) pe_str (nomark _))))) (pw_or1 (pt_not (xt_truK K (pe_call G_number (hr.mono (by omega)) (by rfl) T.g_number T.F_number.kp T.b_number .nil pass0 (pa_cons (pe_ix (ix_k K) (xv 1) pe_int (fun _ _ => rfl)) pa_nil)))))))
      (pss_one (ps_ret pe_bl))
      pss_nil)
      (pss_one (xs_if (PW.pt (xw_or (pt_not (xt_truK K (pe_callB (call_isK K) (by rfl) T.m_isinstance (by decide +kernel) (pa_cons (pe_ix (ix_k K) (xv 1) pe_int (fun _ _ => rfl)) (pa_cons (pe_bltn (v := .ty "tuple") (by rfl) T.m_tuple (by decide +kernel) rfl) pa_nil))))) (pw_or1 (pt_not (xt_truK K (pe_callB (call_isK K) (by rfl) T.m_isinstance (by decide +kernel) (pa_cons (pe_ix (ix_k K) (xv 1) pe_int (fun _ _ => rfl)) (pa_cons (pe_bltn (v := .ty "str") (by rfl) T.m_str (by decide +kernel) rfl) pa_nil))))))))
      (pss_one (ps_ret pe_bl))
      pss_nil)))))
      (pss_one (ps_ret pe_bl)))), ?_⟩
    refine ⟨_, _, _, _, true, rfl, .ty _, sqL_ty (S.l hL), kit_ty (by decide +kernel), ff, fun _ => ?_⟩
    refine ⟨L, rfl, ⟨_, S.l hL⟩, for_list (xs := us) (fun i σ H' => ∃ (y1 : Option V), σ = [some (.ref L), y1] ∧ H' = H) ⟨_, rfl, rfl⟩ (fun i σ H' _ h => ?_) (fun i x σ H' hx h => ?_) (fun σ H' h => ?_)⟩
    · obtain ⟨_, _, rfl⟩ := h
      exact S.l hL
    · obtain ⟨y1, rfl, rfl⟩ := h
      obtain ⟨r, hy, t, ow, rfl, ht, how, hok, lt⟩ := prd_get hu hx
      have hT := S.t (SqT.of (K := K) ht)
      obtain ⟨wo, xo, rfl, hwo, _⟩ := dp_tup how
      refine ⟨_, _, _, _, true, rfl, .ty _, sqT_ty hT, kit_ty (by decide +kernel), ff, fun _ => ?_⟩
      refine ⟨_, .inr hT, ff, fun _ => ?_⟩
      refine ⟨_, _, .inr hT, at0, _, _, _, _, true, rfl, .ty _, .base (.str _), kit_ty (by decide +kernel), ff, fun _ => ?_⟩
      obtain ⟨arm, o, z, v⟩ := r
      cases arm with
      | true =>
        refine ⟨_, _, .inr hT, at0, (fun e1 => nomatch (dn_t.symm.trans e1)), fun e1 => ⟨ff, fun _ => ?_⟩⟩
        refine ⟨_, .int v, .inr hT, rfl, v, rfl, ff, fun _ => ?_⟩
        refine ⟨_, _, .inr hT, rfl, _, _, _, _, true, rfl, .ty _, sqT_ty (S.t hwo), kit_ty (by decide +kernel), ff, fun _ => ?_⟩
        refine ⟨_, .str z, .inr hT, rfl, _, _, _, _, true, rfl, .ty _, .base (.str _), kit_ty (by decide +kernel), ff, fun _ => ?_⟩
        exact ⟨_, rfl, rfl⟩
      | false =>
        refine ⟨_, _, .inr hT, at0, fun e1 => ⟨_, _, .inr hT, at0, (fun e2 => nomatch (dn_f.symm.trans e2)), fun e2 => ?_⟩, (fun e1 => nomatch (dn_g.symm.trans e1))⟩
        refine ⟨_, .int v, .inr hT, rfl, v, rfl, ff, fun _ => ?_⟩
        refine ⟨_, _, .inr hT, rfl, _, _, _, _, true, rfl, .ty _, sqT_ty (S.t hwo), kit_ty (by decide +kernel), ff, fun _ => ?_⟩
        refine ⟨_, .str z, .inr hT, rfl, _, _, _, _, true, rfl, .ty _, .base (.str _), kit_ty (by decide +kernel), ff, fun _ => ?_⟩
        exact ⟨_, rfl, rfl⟩
    · obtain ⟨_, _, rfl⟩ := h
      exact q
/-! ### by the base class -/
def spByBase (K : PySem.W.Frag) : Sp := fun vs H Q _ => ∃ (G : Hp) (M : List (Addr × HO)) (L : Addr) (us : List V) (rs pre : List Rw) (r : Rw) (a : List Ar) (b : Wr), vs = [.ref L] ∧ Sep G M H ∧ SqL K G L us ∧ Paired (RwA K G) us rs ∧ rs.length ≤ 50000 ∧ Bad rs pre r a b ∧
  ∀ (G' H' : Hp), Same G G' → Sep G' M H' → Q (.bl true) H'
theorem ok_by_base (T : Top K mg w) (pf : PySem.XExc.PF P T.x_file) {k : Nat} (G_sound : FnOk P w K mg base (L2.CX P w) k T.a_sound T.d_sound ["log"] (spSound K T.C_ArmedTwice T.C_NotArmed T.C_OldValue)) : FnOk P w K mg base CX0 (k + 12) T.a_by_base T.d_by_base ["_law_log"] (spByBase K) := by
  refine T.F_by_base.ok sc_by_base (fun vs H Q E h => ?_) (fun cdv A outer s H vs Q E hr h => ?_)
  · obtain ⟨G, M, L, us, rs, pre, r, a, b, rfl, _⟩ := h
    rfl
  · obtain ⟨G, M, L, us, rs, pre, r, a, b, rfl, S, hL, hp, hl, bd, q⟩ := h
    refine ⟨_, (pss_cons (ps_try_as (i := 1) (Wout := fun _ _ _ _ => False) rfl rfl sc_by_base.nd rfl rfl ⟨rfl, by decide, Or.inl T.g_ScreenError⟩ takes0
      (fun W pn xe tk _ => (pss_one (ps_expr (pe_callS G_sound (hr.mono (by omega)) (by rfl) T.g_sound T.F_sound.kp T.b_sound (fun σ => passAt tk σ) (pa_cons (xv 0) pa_nil)))))
      (fun a oe cls d pn hz hf => (pss_one (ps_ret (pe_callB (call_isX hz hf) (by rfl) T.m_isinstance (by decide +kernel) (pa_cons (xv 1) (pa_cons (pe_bltn (v := .ty "ValueError") (by rfl) T.m_ValueError (by decide +kernel) rfl) pa_nil)))))))
      (pss_one (ps_ret pe_bl))), ?_⟩
    refine ⟨G, M, L, us, rs, rfl, S, hL, hp, hl, fun a ha => (bd.not ha).elim, fun pre r a b bd G' H' N v dd s' S' hv nd => ?_⟩
    have S2 := S'.new (o := .xd [(PySem.XExc2.wd, .str r.wd), (PySem.XExc2.ow, v)]) nd
    have hx := S2.hd
    have fin : Q (.bl true) (upd H' dd (.xd [(PySem.XExc2.wd, .str r.wd), (PySem.XExc2.ow, v)])) := by
      obtain ⟨G5, s5, S5, h5⟩ := Sep.mk (o := .xd [(PySem.XExc2.wd, .str r.wd), (PySem.XExc2.ow, v)]) (Sep.tail S') nd
      exact q G5 _ (s'.trans s5) S5
    cases b with
    | twice =>
      refine ⟨true, T.em_ArmedTwice_ScreenError, fun _ => fun x nx => ?_, fun e => nomatch e⟩
      exact ⟨T.C_ArmedTwice, dd, _, true, rfl, rfl, hx, T.xc_ArmedTwice, .inl ⟨_, _, rfl, fun u r => r, T.kv_ArmedTwice⟩, fin⟩
    | none =>
      refine ⟨true, T.em_NotArmed_ScreenError, fun _ => fun x nx => ?_, fun e => nomatch e⟩
      exact ⟨T.C_NotArmed, dd, _, true, rfl, rfl, hx, T.xc_NotArmed, .inl ⟨_, _, rfl, fun u r => r, T.kv_NotArmed⟩, fin⟩
    | old =>
      refine ⟨true, T.em_OldValue_ScreenError, fun _ => fun x nx => ?_, fun e => nomatch e⟩
      exact ⟨T.C_OldValue, dd, _, true, rfl, rfl, hx, T.xc_OldValue, .inl ⟨_, _, rfl, fun u r => r, T.kv_OldValue⟩, fin⟩

end
end K41
set_option Elab.async false
set_option linter.all false
set_option maxRecDepth 100000
set_option maxHeartbeats 4000000
namespace K41
open PySem PySem.Spec PyProof.Rows L2 XL
section
variable {P : Program} {w : World} {K : PySem.W.Frag} {mg : Str → Option Value} {base : Heap}
/-! ### one log, judged -/
theorem wrd_ns (b : Wr) : decide (wrd b = (Str.ofString "sound")) = false := by cases b <;> decide +kernel
theorem lt_wrd (b : Wr) : Lt 1 8 (wrd b) := by cases b <;> exact lt_of (by decide +kernel)
theorem eqs (z : Str) : (!decide (z = z)) = false := by rw [decide_eq_true rfl]; rfl
theorem cut_pre (xs : List V) (k : Nat) (h : k ≤ xs.length) : cutV xs none (some (k : Int)) = xs.take k := by
  unfold cutV
  rw [HT.sIx_none, HT.sIx_nat, List.drop_zero, Nat.sub_zero]
  exact (List.take_eq_take_min ..).symm
def spJudged (K : PySem.W.Frag) : Sp := fun vs H Q _ => ∃ (G : Hp) (M : List (Addr × HO)) (L : Addr) (us : List V) (rs : List Rw), vs = [.ref L] ∧ Sep G M H ∧ SqL K G L us ∧ Paired (RwA K G) us rs ∧ rs.length ≤ 50000 ∧ ∀ (G' H' : Hp), Same G G' → Sep G' M H' → Q (.bl true) H'
theorem ok_judged (T : Top K mg w) (pf : PySem.XExc.PF P T.x_file) {k : Nat} (G_walk : FnOk P w K mg base CX0 k T.a_walk T.d_walk ["_law_log"] (spWalk K)) (G_outcome : FnOk P w K mg base CX0 k T.a_outcome T.d_outcome ["_law_log"] (spOutcome K)) (G_same : FnOk P w K mg base CX0 k T.a_same T.d_same ["_law_told", "_law_due"] (spSame K)) (G_by_base : FnOk P w K mg base CX0 k T.a_by_base T.d_by_base ["_law_log"] (spByBase K))
    (G_sound : FnOk P w K mg base CX0 k T.a_sound T.d_sound ["log"] (fun vs H Q _ => spSound K T.C_ArmedTwice T.C_NotArmed T.C_OldValue vs H Q E0)) : FnOk P w K mg base CX0 (k + 12) T.a_judged T.d_judged ["_law_log"] (spJudged K) := by
  refine T.F_judged.ok sc_judged (fun vs H Q E h => ?_) (fun cdv A outer s H vs Q E hr h => ?_)
  · obtain ⟨G, M, L, us, rs, rfl, _⟩ := h
    rfl
  · obtain ⟨G, M, L, us, rs, rfl, S, hL, hp, hl, q⟩ := h
    refine ⟨_, (pss_cons (ps_asg (pe_call G_walk (hr.mono (by omega)) (by rfl) T.g_walk T.F_walk.kp T.b_walk .nil pass0 (pa_cons (xv 0) pa_nil)) (pg_tupK K 3 (pgs_cons (pg_name (i := 1) sc_judged.nd rfl (.inl rfl)) (pgs_cons (pg_name (i := 2) sc_judged.nd rfl (.inl rfl)) (pgs_cons (pg_name (i := 3) sc_judged.nd rfl (.inl rfl)) pgs_nil)))))
      (pss_cons (ps_set (i := 4) sc_judged.nd rfl (.inl rfl) (pe_callTy (call_listK K) (by rfl) T.m_list (by decide +kernel) (pa_cons (xv 0) pa_nil)))
      (pss_cons (ps_set (i := 5) sc_judged.nd rfl (.inl rfl) (pe_call G_outcome (hr.mono (by omega)) (by rfl) T.g_outcome T.F_outcome.kp T.b_outcome .nil pass0 (pa_cons (xv 4) pa_nil)))
      (pss_cons (xs_if (PW.pt (xw_or (xt_cmp (op_neLK K hr.u190) (pe_ix (ix_k K) (xv 5) pe_int (fun _ _ => rfl)) (xv 2) (nomark _)) (pw_or1 (xt_cmp (op_neLK K hr.u190) (xv 4) (xv 0) (nomark _)))))
      (pss_one (ps_ret pe_bl))
      pss_nil)
      (pss_cons (xs_if (xt_cmp (op_eqLK K hr.u190) (xv 2) pe_str (nomark _))
      (pss_cons (xs_if (pt_not (xt_truK K (pe_call G_same (hr.mono (by omega)) (by rfl) T.g_same T.F_same.kp T.b_same .nil pass0 (pa_cons (pe_ix (ix_k K) (xv 5) pe_int (fun _ _ => rfl)) (pa_cons (xv 3) pa_nil)))))
      (pss_one (ps_ret pe_bl))
      pss_nil)
      (pss_cons (ps_set (i := 6) sc_judged.nd rfl (.inl rfl) (pe_ix (ix_k K) (xv 5) pe_int (fun _ _ => rfl)))
      (pss_cons (ps_expr (pe_bmK K PySem.F.plainAttrs_list PySem.F.slot_list_append PySem.F.type_list_append mt_append (xv 6) (pa_cons (pe_tup (pa_cons (pe_tup pa_nil) (pa_cons pe_str (pa_cons pe_int pa_nil)))) pa_nil)))
      (pss_one (ps_ret (pe_call G_same (hr.mono (by omega)) (by rfl) T.g_same T.F_same.kp T.b_same .nil pass0 (pa_cons (pe_call G_sound (hr.mono (by omega)) (by rfl) T.g_sound T.F_sound.kp T.b_sound .nil pass0 (pa_cons (xv 4) pa_nil)) (pa_cons (xv 3) pa_nil))))))))
      pss_nil)
      (pss_cons (xs_if (PW.pt (xw_or (xt_cmp (op_neLK K hr.u190) (xv 5) (pe_tup (pa_cons (xv 2) (pa_cons (pe_ix (ix_k K) (pe_ix (ix_k K) (xv 0) (xv 1) (fun _ _ => rfl)) pe_int (fun _ _ => rfl)) (pa_cons (pe_ix (ix_k K) (pe_ix (ix_k K) (xv 0) (xv 1) (fun _ _ => rfl)) pe_int (fun _ _ => rfl)) (pa_cons pe_bl pa_nil))))) (nomark _)) (pw_or1 (pt_not (xt_truK K (pe_call G_by_base (hr.mono (by omega)) (by rfl) T.g_by_base T.F_by_base.kp T.b_by_base .nil pass0 (pa_cons (xv 4) pa_nil)))))))
      (pss_one (ps_ret pe_bl))
      pss_nil)
      (pss_one (ps_ret (pe_call G_same (hr.mono (by omega)) (by rfl) T.g_same T.F_same.kp T.b_same .nil pass0 (pa_cons (pe_call G_sound (hr.mono (by omega)) (by rfl) T.g_sound T.F_sound.kp T.b_sound .nil pass0 (pa_cons (pe_slice (sl_listK K) (xv 0) po_none (po_some (xv 1))) pa_nil)) (pa_cons (xv 3) pa_nil))))))))))), ?_⟩
    have ul := prd_len hp
    rcases Bad.or rs with ⟨a, ha⟩ | ⟨pre, r, a, b, bd⟩
    · refine ⟨G, M, L, us, rs, rfl, S, (fun _ _ s S => S.l (same_l s hL)), hp, hl, fun a' ha' t D ds G1 H1 s1 ht hD hd S1 => ?_, fun _ _ _ _ bd => (bd.not ha).elim⟩
      obtain rfl : a' = a := Option.some.inj (ha'.symm.trans ha)
      refine ⟨t, _, rfl, S1.t (SqT.of ht), rfl, _, _, rfl, _, _, rfl, _, _, rfl, rfl, ?_⟩
      refine ⟨L, us, rfl, .inl (S1.l (same_l s1 hL)), fun Gv nGv => ?_⟩
      obtain ⟨G2, s2, S2, hG⟩ := Sep.mk (o := .lst us) S1 nGv
      have s02 := s1.trans s2
      refine ⟨G2, M, Gv, us, rs, rfl, S2, SqL.of hG, prd_sameR s02 hp, hl, fun a'' ha'' t5 D5 ds5 G3 H3 s3 h5 S3 hd5 => ?_, fun _ _ _ _ bd => (bd.not ha).elim⟩
      obtain rfl : a'' = a' := Option.some.inj (ha''.symm.trans ha)
      have s03 := s02.trans s3
      have h5' := SqT.of (K := K) (S3.st h5)
      have hG3 := SqL.of (K := K) (S3.st (s3 _ _ hG))
      have hL3 := S3.l (same_l s03 hL)
      refine ⟨_, _, .inr h5', at0, (fun e => nomatch ((eqs _).symm.trans e)), fun _ => ?_⟩
      obtain ⟨d, d', g1, g2, g3, g4, g5, g6⟩ := nl_dat (m := 10) (by decide) hG3 hL3 (prd_nvR (prd_sameR (s03.trans S3.1) hp)) (prd_nvR (prd_sameR (s03.trans S3.1) hp))
      rw [decide_eq_true rfl] at g6
      refine ⟨d, d', g1, g2, g3, g4, g5, ?_⟩
      rw [g6]
      refine ⟨ff, fun _ => ⟨fun _ => ?_, fun e => nomatch (show false = true from e.symm.trans (decide_eq_true rfl))⟩⟩
      have hD3 := SqL.of (K := K) (S3.st (s3 _ _ (s2 _ _ hD)))
      have hd3 := prd_same (s2.trans s3) hd
      refine ⟨_, .ref D5, .inr h5', rfl, G3, _, D5, D, ds5, ds, _, rfl, S3, (fun G' H' s S => SqL.of S.hd), hD3, hd5, hd3, fun G4 H4 s4 S4 => ⟨ff, fun _ => ?_⟩⟩
      have h54 := SqT.of (K := K) (S4.st (s4 _ _ h5))
      refine ⟨_, .ref D5, .inr h54, rfl, .inl ⟨rfl, _, SqL.of S4.hd⟩, sz, fun e0 n0 => ?_⟩
      obtain ⟨G5, s5, S5, _⟩ := Sep.mk (o := .tup []) S4 n0
      refine ⟨sz, fun e1 n1 => ?_⟩
      obtain ⟨G6, s6, S6, _⟩ := Sep.mk (o := .tup [.ref e0, .str "", .int 0]) S5 n1
      have al := snd_len ha
      have d5l := prd_len hd5
      refine ⟨D5, _, _, rfl, rfl, S6.hd, smallL (by omega), ?_⟩
      have S7 := S6.set (o' := .lst (ds5 ++ [V.ref e1]))
      have s36 := (s4.trans s5).trans s6
      refine ⟨G6, _, Gv, us, rs, rfl, S7, SqL.of (s36 _ _ (s3 _ _ hG)), prd_sameR (s03.trans s36) hp, hl, fun a3 ha3 D6 ds6 G7 H7 s7 S8 hd6 => ?_, fun _ _ _ _ bd => (bd.not ha).elim⟩
      obtain rfl : a3 = a'' := Option.some.inj (ha3.symm.trans ha)
      have s37 := s36.trans s7
      refine ⟨G7, _, D6, D, ds6, ds, _, rfl, S8, (fun G' H' s S => SqL.of S.hd), SqL.of (S8.st (s37 _ _ (s3 _ _ (s2 _ _ hD)))), hd6, prd_same s37 hd3, fun G8 H8 s8 S9 => ?_⟩
      exact q G8 H8 ((s03.trans s37).trans s8) S9.drop.drop
    · refine ⟨G, M, L, us, rs, rfl, S, (fun _ _ s S => S.l (same_l s hL)), hp, hl, (fun a' ha' => (bd.not ha').elim), fun pre' r' a' b' bd' t D ds G1 H1 s1 ht hD hd S1 => ?_⟩
      obtain ⟨rfl, rfl, rfl, rfl⟩ := bd.one bd'
      refine ⟨t, _, rfl, S1.t (SqT.of ht), rfl, _, _, rfl, _, _, rfl, _, _, rfl, rfl, ?_⟩
      refine ⟨L, us, rfl, .inl (S1.l (same_l s1 hL)), fun Gv nGv => ?_⟩
      obtain ⟨G2, s2, S2, hG⟩ := Sep.mk (o := .lst us) S1 nGv
      have s02 := s1.trans s2
      refine ⟨G2, M, Gv, us, rs, rfl, S2, SqL.of hG, prd_sameR s02 hp, hl, (fun a' ha' => (bd.not ha').elim), fun pre2 r2 a2 b2 bd2 t5 v G3 H3 s3 h5 hv S3 => ?_⟩
      obtain ⟨rfl, rfl, rfl, rfl⟩ := bd.one bd2
      have s03 := s02.trans s3
      have h5' := SqT.of (K := K) (S3.st h5)
      have hG3 := SqL.of (K := K) (S3.st (s3 _ _ hG))
      have hL3 := S3.l (same_l s03 hL)
      refine ⟨_, _, .inr h5', at0, (fun e => nomatch ((eqs _).symm.trans e)), fun _ => ?_⟩
      obtain ⟨d, d', g1, g2, g3, g4, g5, g6⟩ := nl_dat (m := 10) (by decide) hG3 hL3 (prd_nvR (prd_sameR (s03.trans S3.1) hp)) (prd_nvR (prd_sameR (s03.trans S3.1) hp))
      rw [decide_eq_true rfl] at g6
      refine ⟨d, d', g1, g2, g3, g4, g5, ?_⟩
      rw [g6]
      refine ⟨ff, fun _ => ⟨(fun e => nomatch ((wrd_ns _).symm.trans e)), fun _ => ?_⟩⟩
      obtain ⟨post, er⟩ := bd.at'
      have hr0 : rs[pre2.length]? = some r2 := by rw [er]; simp
      obtain ⟨u, hu, t0, ow, rfl, ht0, how, hok, lt⟩ := prd_getR hp hr0
      have hT := S3.t (SqT.of (K := K) (s03 _ _ ht0))
      have il := (List.getElem?_eq_some_iff.mp hu).1
      refine ⟨us, _, .inl hL3, atI_nat hu, _, ow, .inr hT, rfl, us, _, .inl hL3, atI_nat hu, _, .str r2.wd, .inr hT, rfl, sz, fun t6 n6 => ?_⟩
      obtain ⟨G4, s4, S4, h6⟩ := Sep.mk (o := .tup [.str (wrd b2), ow, .str r2.wd, .bl false]) S3 n6
      have s04 := s03.trans s4
      have m1 : NV K 8 G4 (.ref t5) (.tuple [.str (wrd b2), owD r2.ow, .str r2.wd, .int 0]) := nv_tup (SqT.of (s4 _ _ h5)) (.cons (nv_str (lt_wrd _)) (.cons (hv.same s4) (.cons (nv_str lt) (.cons (nv_bl false) .nil))))
      have m2 : NV K 8 G4 (.ref t6) (.tuple [.str (wrd b2), owD r2.ow, .str r2.wd, .int 0]) := nv_tup (SqT.of h6) (.cons (nv_str (lt_wrd _)) (.cons (OwV.of (dp_same s04 how)) (.cons (nv_str lt) (.cons (nv_bl false) .nil))))
      obtain ⟨d, d', g1, g2, g3, g4, g5, g6⟩ := nv_dat (by decide) (m1.same S4.1) (m2.same S4.1)
      rw [decide_eq_true rfl] at g6
      refine ⟨d, d', g1, g2, g3, g4, g5, ?_⟩
      rw [g6]
      refine ⟨ff, fun _ => ?_⟩
      refine ⟨G4, M, Gv, us, rs, pre2, r2, a2, b2, rfl, S4, SqL.of (s4 _ _ (s3 _ _ hG)), prd_sameR s04 hp, hl, bd, fun G5 H5 s5 S5 => ⟨ff, fun _ => ?_⟩⟩
      have s05 := s04.trans s5
      refine ⟨_, rfl, L, us, rfl, S5.l (same_l s05 hL), fun c nc => ?_⟩
      rw [cut_pre us pre2.length (Nat.le_of_lt il)]
      obtain ⟨G6, s6, S6, hc⟩ := Sep.mk (o := .lst (us.take pre2.length)) S5 nc
      have s06 := s05.trans s6
      have ep : rs.take pre2.length = pre2 := by rw [er, List.take_left']; rfl
      have hpp : Paired (RwA K G6) (us.take pre2.length) pre2 := by
        have := prd_take pre2.length (prd_sameR s06 hp)
        rwa [ep] at this
      have pl : pre2.length ≤ 50000 := by omega
      refine ⟨G6, M, c, _, pre2, rfl, S6, SqL.of hc, hpp, pl, fun a3 ha3 D6 ds6 G7 H7 s7 S8 hd6 => ?_, fun _ _ _ _ bd3 => (bd3.not bd.ar).elim⟩
      obtain rfl : a3 = a2 := Option.some.inj (ha3.symm.trans bd.ar)
      have s27 := (((s3.trans s4).trans s5).trans s6).trans s7
      refine ⟨G7, _, D6, D, ds6, ds, _, rfl, S8, (fun G' H' s S => SqL.of S.hd), SqL.of (S8.st (s27 _ _ (s2 _ _ hD))), hd6, prd_same (s2.trans s27) hd, fun G8 H8 s8 S9 => ?_⟩
      exact q G8 H8 ((s06.trans s7).trans s8) S9.drop

end
end K41
set_option Elab.async false
set_option linter.all false
set_option maxRecDepth 100000
set_option maxHeartbeats 4000000
namespace K41
open PySem PySem.Spec PyProof.Rows L2 XL
section
variable {P : Program} {w : World} {K : PySem.W.Frag} {mg : Str → Option Value} {base : Heap}
/-! ### a new name -/
def spNew : Sp := fun vs H Q _ => ∃ (G : Hp) (M : List (Addr × HO)) (b : Addr) (o : HO) (l : Addr) (zs : List Str), vs = [.ref b, .ref l] ∧ Sep G ((b, o) :: (l, .lst (zs.map V.str)) :: M) H ∧ Bag G o ∧ (∀ z ∈ zs, Lt 1 8 z) ∧ zs.length ≤ 100 ∧
  ∀ (z : Str) (o' : HO) (H' : Hp), Lt 1 8 z → z ∉ zs → z ≠ "item" → z ≠ "at" → Bag G o' → Sep G ((b, o') :: (l, .lst ((zs ++ [z]).map V.str)) :: M) H' → Q (.str z) H'
theorem letter_ix {r : Int} (h0 : 0 ≤ r) (h1 : r < 26) : ∃ c, atI LS.cps.toList r = some c ∧ c ∈ LS.cps.toList := by
  obtain ⟨k, rfl⟩ := Int.eq_ofNat_of_zero_le h0
  have z := letter_at (show k < 26 by omega)
  exact ⟨_, atI_nat z, List.mem_of_getElem? z⟩
theorem LS_len : LS.length ≤ sizeLine := by decide +kernel
theorem lt_small {a b : Nat} {z : Str} (h : Lt a b z) (hb : b ≤ 100) : z.length ≤ sizeLine := Nat.le_trans h.hi (Nat.le_trans hb (by decide))
def freshOf (p : Str) (zs : List Str) (ts : List Str) : List Str := (ts.filter fun t => !decide (p ++ t ∈ zs)).map fun t => p ++ t
theorem fresh_snoc (p : Str) (us ts : List Str) (t2 : Str) : freshOf p us (ts ++ [t2]) = freshOf p us ts ++ (if !decide (p ++ t2 ∈ us) then [p ++ t2] else []) := by
  unfold freshOf
  rw [List.filter_append, List.map_append]
  congr 1
  by_cases h : p ++ t2 ∈ us <;> simp [h]
theorem ok_new_name (T : Top K mg w) {k : Nat} (G_pick : FnOk P w K mg base CX0 k T.a_pick T.d_pick ["_law_bag_here", "_law_many"] spPick) : FnOk P w K mg base CX0 (k + 1) T.a_new_name T.d_new_name ["_law_bag_here", "_law_used"] spNew := by
  refine T.F_new_name.ok sc_new_name (fun vs H Q E h => ?_) (fun cdv A outer s H vs Q E hr h => ?_)
  · obtain ⟨G, M, b, o, l, zs, rfl, _⟩ := h
    rfl
  · obtain ⟨G, M, b, o, l, zs, rfl, S, B, hz, zl, q⟩ := h
    refine ⟨_, (pss_cons (ps_set (i := 2) sc_new_name.nd rfl (.inr rfl) pe_str)
      (pss_cons (ps_set (i := 3) sc_new_name.nd rfl (.inr rfl) (pe_join pe_str (pe_lc (own := [("_law_step_here", 7)]) (by rfl) sc_new_name.nd (pi_range1 (by rfl) T.m_range (pa_cons (pe_op op_addY pe_int (pe_call G_pick (hr.mono (by omega)) (by rfl) T.g_pick T.F_pick.kp T.b_pick .nil pass0 (pa_cons (xv 0) (pa_cons pe_int pa_nil)))) pa_nil)) (blkOk_by (N := ["_law_bag_here", "_law_used", "_law_letters", "_law_told", "_law_near", "_law_at", "_law_tails", "_law_step_here", "_law_k", "_law_tail"]) (sc := defScope s_new_name) (by decide +kernel)) (fun _ _ _ _ _ => (pg_name (i := 7) sc_new_name.nd rfl (.inl rfl))) (fun _ _ _ _ _ => pts_nil) (fun _ _ _ _ _ => (pe_ix (ix_k K) (xv 2) (pe_call G_pick (hr.mono (by omega)) (by rfl) T.g_pick T.F_pick.kp T.b_pick .nil pass0 (pa_cons (xv 0) (pa_cons pe_int pa_nil))) (fun _ _ => rfl))))))
      (xss_cut (xs_if (PW.pt (xw_and (xt_truK K (xv 1)) (pw_and1 (xt_cmp (op_eqLK K hr.u190) (pe_call G_pick (hr.mono (by omega)) (by rfl) T.g_pick T.F_pick.kp T.b_pick .nil pass0 (pa_cons (xv 0) (pa_cons pe_int pa_nil))) pe_int (nomark _)))))
      (pss_cons (ps_set (i := 4) sc_new_name.nd rfl (.inl rfl) (pe_slice sl_str (pe_ix (ix_k K) (xv 1) (pe_call G_pick (hr.mono (by omega)) (by rfl) T.g_pick T.F_pick.kp T.b_pick .nil pass0 (pa_cons (xv 0) (pa_cons (pe_callB (cr_lenK K) (by rfl) T.m_len (by decide +kernel) (pa_cons (xv 1) pa_nil)) pa_nil))) (fun _ _ => rfl)) po_none (po_some pe_int)))
      (pss_cons (ps_set (i := 5) sc_new_name.nd rfl (.inl rfl) (pe_call G_pick (hr.mono (by omega)) (by rfl) T.g_pick T.F_pick.kp T.b_pick .nil pass0 (pa_cons (xv 0) (pa_cons (pe_callB (cr_lenK K) (by rfl) T.m_len (by decide +kernel) (pa_cons (xv 4) pa_nil)) pa_nil))))
      (pss_one (ps_set (i := 3) sc_new_name.nd rfl (.inr rfl) (pe_op op_addY (pe_op op_addY (pe_slice sl_str (xv 4) po_none (po_some (xv 5))) (pe_ix (ix_k K) (xv 2) (pe_call G_pick (hr.mono (by omega)) (by rfl) T.g_pick T.F_pick.kp T.b_pick .nil pass0 (pa_cons (xv 0) (pa_cons pe_int pa_nil))) (fun _ _ => rfl))) (pe_slice sl_str (xv 4) (po_some (pe_op op_addY (xv 5) pe_int)) po_none))))))
      pss_nil)
      (xss_cut (xs_if (xt_cmp (in_seqK K) (xv 3) (pe_op op_addY (xv 1) (pe_lst (pa_cons pe_str (pa_cons pe_str pa_nil)))) (by rfl))
      (pss_cons (ps_setLc (i := 6) (own := [("_law_k", 8)]) (by rfl) sc_new_name.nd rfl rfl (sw_true rfl rfl rfl (by decide +kernel)) (pi_range1 (by rfl) T.m_range (pa_cons pe_int pa_nil)) (blkOk_by (N := ["_law_bag_here", "_law_used", "_law_letters", "_law_told", "_law_near", "_law_at", "_law_tails", "_law_step_here", "_law_k", "_law_tail"]) (sc := defScope s_new_name) (by decide +kernel)) (fun _ _ _ _ _ => (pg_name (i := 8) sc_new_name.nd rfl (.inl rfl))) (fun _ _ _ _ _ => pts_nil) (fun _ _ _ _ _ => (pe_op op_addY (pe_ix (ix_k K) (xv 2) (pe_op op_divY (xv 8) pe_int) (fun _ _ => rfl)) (pe_ix (ix_k K) (xv 2) (pe_op op_modY (pe_callTy cr_int (by rfl) T.m_int (by decide +kernel) (pa_cons (xv 8) pa_nil)) pe_int) (fun _ _ => rfl)))))
      (pss_one (ps_set (i := 3) sc_new_name.nd rfl (.inr rfl) (pe_ix (ix_k K) (pe_lc (own := [("_law_tail", 9)]) (by rfl) sc_new_name.nd (pi_listK K (xv 6)) (blkOk_by (N := ["_law_bag_here", "_law_used", "_law_letters", "_law_told", "_law_near", "_law_at", "_law_tails", "_law_step_here", "_law_k", "_law_tail"]) (sc := defScope s_new_name) (by decide +kernel)) (fun _ _ _ _ _ => (pg_name (i := 9) sc_new_name.nd rfl (.inl rfl))) (fun _ _ _ _ _ => (pts_one (xt_cmp (notin_seqK K) (pe_op op_addY (pe_slice sl_str (xv 3) po_none (po_some pe_int)) (xv 9)) (pe_op op_addY (xv 1) (pe_lst (pa_cons pe_str pa_nil))) (by rfl)))) (fun _ _ _ _ _ => (pe_op op_addY (pe_slice sl_str (xv 3) po_none (po_some pe_int)) (xv 9)))) pe_int (fun _ _ => rfl)))))
      pss_nil)
      (pss_cons (ps_expr (pe_bmK K PySem.F.plainAttrs_list PySem.F.slot_list_append PySem.F.type_list_append mt_append (xv 1) (pa_cons (xv 3) pa_nil)))
      (pss_one (ps_ret (xv 3)))))))), ?_⟩
    -- letters in a row
    refine ⟨⟨_, rfl⟩, G, _, b, o, 6, rfl, S, B, by decide, by decide, fun r1 o1 H1 r10 r11 B1 S1 => ⟨_, rfl, by omega, by omega, fun D nD => lc_range (lo := 0) (n := (1 + r1).toNat) (fun i H' => ∃ (o' : HO) (ys : List Str), Bag G o' ∧ Sep G ((D, .lst (ys.map V.str)) :: (b, o') :: (l, .lst (zs.map V.str)) :: M) H' ∧ ys.length = i ∧ ∀ y ∈ ys, Lt 1 1 y)
      ⟨o1, [], B1, S1.new nD, rfl, fun y hy => absurd hy (by simp)⟩ (fun i H' hi p => ?_) (fun H' p => ?_)⟩⟩
    · obtain ⟨o', ys, B', S', yl, hy⟩ := p
      refine ⟨rfl, G, _, b, o', 26, rfl, S'.sw, B', by decide, by decide, fun r2 o2 H2 r20 r21 B2 S2 => ?_⟩
      obtain ⟨c, hc, hm⟩ := letter_ix r20 r21
      refine ⟨c, LS_len, hc, ys.map V.str, S2.sw.hd, by rw [List.length_map]; exact smallL (by omega), o2, ys ++ [⟨#[c]⟩], B2, ?_, by rw [List.length_append, yl]; rfl, fun y hy' => ?_⟩
      · rw [List.map_append]
        exact S2.sw.set
      · rcases List.mem_append.mp hy' with z | z
        · exact hy y z
        · rw [List.mem_singleton.mp z]
          exact Lt.one hm
    obtain ⟨o2, ys, B2, S2, yl, hy⟩ := p
    refine ⟨_, D, ys, rfl, rfl, .inl (SqL.of S2.hd), ?_, ?_⟩
    · rw [sum_ones hy, show Str.length ("" : Str) = 0 from rfl, Nat.mul_zero]
      omega
    have S3 := S2.drop
    have lt1 : Lt 1 6 (Txt.join "" ys) := (Lt.join hy).wide (by omega) (by omega)
    generalize Txt.join "" ys = t1 at *
    -- near another one
    refine ⟨fun σ H' => ∃ (y4 y5 : Option V) (o' : HO) (t : Str), σ = [some (.ref b), some (.ref l), some (.str LS), some (.str t), y4, y5, none, none, none, none] ∧ Lt 1 6 t ∧ Bag G o' ∧ Sep G ((b, o') :: (l, .lst (zs.map V.str)) :: M) H', ?_, fun σ H4 h => ?_⟩
    · have stay : ∀ (o' : HO) (H' : Hp), Bag G o' → Sep G ((b, o') :: (l, .lst (zs.map V.str)) :: M) H' → ∃ (y4 y5 : Option V) (o' : HO) (t : Str), ([some (.ref b), some (.ref l), some (.str LS), some (.str t1), none, none, none, none, none, none] : List (Option V)) = [some (.ref b), some (.ref l), some (.str LS), some (.str t), y4, y5, none, none, none, none] ∧ Lt 1 6 t ∧ Bag G o' ∧ Sep G ((b, o') :: (l, .lst (zs.map V.str)) :: M) H' :=
        fun o' H' B' S' => ⟨_, _, o', t1, rfl, lt1, B', S'⟩
      refine ⟨_, .inl ⟨_, SqL.of S3.sw.hd, rfl⟩, fun ne => ⟨G, _, b, o2, 3, rfl, S3, B2, by decide, by decide, fun r4 o4 H4 _ _ B4 S4 => ⟨fun _ => ?_, fun _ => stay o4 H4 B4 S4⟩⟩, fun _ => ⟨ff, fun _ => stay o2 _ B2 S3⟩⟩
      have z0 : 0 < zs.length := by
        cases zs with
        | nil => cases ne
        | cons _ _ => simp
      refine ⟨_, .inl (SqL.of S4.sw.hd), G, _, b, o4, _, rfl, S4, B4, by rw [List.length_map]; omega, by rw [List.length_map]; omega, fun r5 o5 H5 r50 r51 B5 S5 => ?_⟩
      obtain ⟨v5, hv5, hm5⟩ := atI_in r50 r51
      obtain ⟨z5, hz5, rfl⟩ := List.mem_map.mp hm5
      have l5 := hz z5 hz5
      refine ⟨_, _, .inl (SqL.of S5.sw.hd), hv5, _, rfl, z5, rfl, lt_small l5 (by decide), ?_⟩
      have ln : Lt 1 6 (cutS z5 none (some (6 : Int))) := (l5.to 6).wide (by decide) (by decide)
      generalize cutS z5 none (some (6 : Int)) = nr at *
      have nlo := ln.lo
      have nhi := ln.hi
      refine ⟨lt_small ln (by decide), G, _, b, o5, _, rfl, S5, B5, by omega, by omega, fun r6 o6 H6 r60 r61 B6 S6 => ?_⟩
      obtain ⟨k6, rfl⟩ := Int.eq_ofNat_of_zero_le r60
      refine ⟨_, rfl, nr, rfl, lt_small ln (by decide), G, _, b, o6, 26, rfl, S6, B6, by decide, by decide, fun r7 o7 H7 r70 r71 B7 S7 => ?_⟩
      obtain ⟨c, hc, hm⟩ := letter_ix r70 r71
      have a1 : (cutS nr none (some (k6 : Int))).length = k6 := by rw [cut_to_len]; omega
      have a2 : (cutS nr (some ((k6 + 1 : Nat) : Int)) none).length = nr.length - (k6 + 1) := cut_from_len nr (k6 + 1) (by omega)
      refine ⟨c, LS_len, hc, ?_, fun t2 et2 => ⟨_, rfl, nr, rfl, lt_small ln (by decide), ?_, fun t3 et3 => ⟨_, _, o7, t3, rfl, ?_, B7, S7⟩⟩⟩
      · rw [a1]
        exact small (by show k6 + 1 ≤ 100000; omega)
      · rw [et2, app_len, a1]
        show k6 + 1 + (cutS nr (some ((k6 + 1 : Nat) : Int)) none).length ≤ sizeLine
        rw [a2]
        exact small (by omega)
      · rw [et3, et2]
        have p1 : Lt k6 k6 (cutS nr none (some (k6 : Int))) := ⟨by omega, by omega, fun d hd => ln.ch d (cut_mem hd)⟩
        have p2 : Lt (nr.length - (k6 + 1)) (nr.length - (k6 + 1)) (cutS nr (some ((k6 + 1 : Nat) : Int)) none) := ⟨by omega, by omega, fun d hd => ln.ch d (cut_mem hd)⟩
        exact ((p1.app (Lt.one hm)).app p2).wide (by omega) (by omega)
    obtain ⟨y4, y5, o4, t, rfl, lt, B4, S4⟩ := h
    -- one that is used
    refine ⟨fun σ H' => ∃ (y6 : Option V) (z : Str), σ = [some (.ref b), some (.ref l), some (.str LS), some (.str z), y4, y5, y6, none, none, none] ∧ Lt 1 8 z ∧ z ∉ zs ∧ z ≠ "item" ∧ z ≠ "at" ∧ Sep G ((b, o4) :: (l, .lst (zs.map V.str)) :: M) H', ?_, fun σ H5 h => ?_⟩
    · refine ⟨sz, fun A1 nA1 => ?_⟩
      have S5 := S4.new (o := .lst [.str "item", .str "at"]) nA1
      refine ⟨l, A1, zs.map V.str, [.str "item", .str "at"], rfl, rfl, S5.at (show (l, HO.lst (zs.map V.str)) ∈ _ by simp), S5.hd, small (by rw [List.length_map]; simp; omega), fun A2 nA2 => ?_⟩
      have e6 : zs.map V.str ++ [V.str "item", .str "at"] = (zs ++ (["item", "at"] : List Str)).map V.str := by rw [List.map_append]; rfl
      rw [e6]
      have S6 := S5.new (o := .lst ((zs ++ (["item", "at"] : List Str)).map V.str)) nA2
      have S7 := S6.drop.drop
      refine ⟨A2, _, rfl, .inl (SqL.of S6.hd), rfl, strs_flat _, fun e1 => ?_, fun e1 => ?_⟩
      · -- its tails
        refine ⟨676, rfl, by decide, by decide, fun D nD => lc_range (lo := 0) (n := (676 : Int).toNat) (fun i H' => Sep G ((D, .lst (((List.range i).map tail2).map V.str)) :: (b, o4) :: (l, .lst (zs.map V.str)) :: M) H') (S7.new nD) (fun i H' hi p => ?_) (fun H8 S8 => ?_)⟩
        · have hi : i < 676 := hi
          rw [Int.zero_add]
          refine ⟨rfl, ⟨by decide, by decide⟩, fun d ed _ => ⟨letter (i / 26), LS_len, ?_, by decide, fun r er r0 r1 => ⟨letter (i % 26), LS_len, ?_, small (by show 1 + 1 ≤ 100000; decide), fun t2 et2 => ⟨_, p.hd, ?_, ?_⟩⟩⟩⟩
          · have z : d = ((i / 26 : Nat) : Int) := by omega
            rw [z]
            exact atI_nat (letter_at (by omega))
          · have z : r = ((i % 26 : Nat) : Int) := by omega
            rw [z]
            exact atI_nat (letter_at (by omega))
          · rw [List.length_map, List.length_map, List.length_range]
            exact smallL (by omega)
          · rw [List.range_succ, List.map_append, List.map_append, et2]
            exact p.set
        have S8 : Sep G ((D, .lst (((List.range 676).map tail2).map V.str)) :: (b, o4) :: (l, .lst (zs.map V.str)) :: M) H8 := S8
        have ltp : Lt 1 6 (cutS t none (some (6 : Int))) := (lt.to 6).wide (by decide) (by decide)
        generalize ep : cutS t none (some (6 : Int)) = p at *
        have tl : ∀ t2 ∈ (List.range 676).map tail2, Lt 2 2 t2 := fun t2 h => by
          obtain ⟨k2, hk2, rfl⟩ := List.mem_map.mp h
          exact tail2_lt (List.mem_range.mp hk2)
        obtain ⟨ts, ets⟩ : ∃ ts, ts = (List.range 676).map tail2 := ⟨_, rfl⟩
        rw [← ets] at tl S8
        have tsl : ts.length = 676 := by rw [ets]; simp
        refine ⟨D, rfl, ⟨_, SqL.of S8.hd⟩, fun F nF => lc_list (xs := ts.map V.str) (fun i H' => Sep G ((F, .lst ((freshOf p (zs ++ (["item"] : List Str)) (ts.take i)).map V.str)) :: (D, .lst (ts.map V.str)) :: (b, o4) :: (l, .lst (zs.map V.str)) :: M) H')
          (S8.new nF) (fun i H' _ p' => SqL.of p'.sw.hd) (fun i x H' hx p' => ?_) (fun H9 S9 => ?_)⟩
        · rw [List.getElem?_map] at hx
          obtain ⟨t2, ht2, rfl⟩ := Option.map_eq_some_iff.mp hx
          have lt2 := tl t2 (List.mem_of_getElem? ht2)
          have il := (List.getElem?_eq_some_iff.mp ht2).1
          have ltb := ltp.app lt2
          have hb := ltb.hi
          rw [app_len] at hb
          have flen : (freshOf p (zs ++ (["item"] : List Str)) (ts.take i)).length ≤ 676 := by
            unfold freshOf
            rw [List.length_map]
            refine Nat.le_trans (List.length_filter_le _ _) ?_
            rw [List.length_take]
            omega
          have fstep : freshOf p (zs ++ (["item"] : List Str)) (ts.take (i + 1)) = freshOf p (zs ++ (["item"] : List Str)) (ts.take i) ++ (if !decide (p ++ t2 ∈ zs ++ (["item"] : List Str)) then [p ++ t2] else []) := by
            rw [XL.take_snoc ht2]
            exact fresh_snoc _ _ _ _
          rw [fstep]
          refine ⟨rfl, _, rfl, t, rfl, lt_small lt (by decide), ?_⟩
          rw [ep]
          refine ⟨small (by omega), fun u1 eu1 => ⟨sz, fun A3 nA3 => ?_⟩⟩
          have Sa := p'.new (o := .lst [.str "item"]) nA3
          refine ⟨l, A3, zs.map V.str, [.str "item"], rfl, rfl, Sa.at (show (l, HO.lst (zs.map V.str)) ∈ _ by simp), Sa.hd, small (by rw [List.length_map]; simp; omega), fun A4 nA4 => ?_⟩
          have e7 : zs.map V.str ++ [V.str "item"] = (zs ++ (["item"] : List Str)).map V.str := by rw [List.map_append]; rfl
          rw [e7]
          have Sb := Sa.new (o := .lst ((zs ++ (["item"] : List Str)).map V.str)) nA4
          refine ⟨A4, _, rfl, .inl (SqL.of Sb.hd), rfl, strs_flat _, ?_⟩
          have e8 : (if true = true then !inV (V.str u1) ((zs ++ (["item"] : List Str)).map V.str) else inV (V.str u1) ((zs ++ (["item"] : List Str)).map V.str)) = !decide (p ++ t2 ∈ zs ++ (["item"] : List Str)) := by rw [if_pos rfl, inV_str, eu1]
          rw [e8]
          have Sc := Sb.drop.drop
          refine tst (fun e9 => ?_) (fun e9 => ?_)
          · rw [if_pos e9]
            refine ⟨_, rfl, t, rfl, lt_small lt (by decide), ?_⟩
            rw [ep]
            refine ⟨small (by omega), fun u2 eu2 => ⟨_, Sc.hd, by rw [List.length_map]; exact smallL (by omega), ?_⟩⟩
            rw [List.map_append, eu2]
            exact Sc.set
          · rw [if_neg (by rw [e9]; exact Bool.false_ne_true), List.append_nil]
            exact Sc
        rw [List.length_map, List.take_length] at S9
        obtain ⟨k0, hk0, no⟩ := unused p (zs ++ (["item"] : List Str)) (by rw [List.length_append]; simp; omega)
        have mem : p ++ tail2 k0 ∈ freshOf p (zs ++ (["item"] : List Str)) ts := by
          unfold freshOf
          refine List.mem_map.mpr ⟨tail2 k0, List.mem_filter.mpr ⟨?_, by simpa using no⟩, rfl⟩
          rw [ets]
          exact List.mem_map.mpr ⟨k0, List.mem_range.mpr hk0, rfl⟩
        cases ef : freshOf p (zs ++ (["item"] : List Str)) ts with
        | nil => rw [ef] at mem; cases mem
        | cons z0 zr =>
          rw [ef] at S9
          have hz0 : z0 ∈ freshOf p (zs ++ (["item"] : List Str)) ts := by rw [ef]; exact List.mem_cons_self
          unfold freshOf at hz0
          obtain ⟨t2, ht2, rfl⟩ := List.mem_map.mp hz0
          obtain ⟨h1, h2⟩ := List.mem_filter.mp ht2
          have no2 : p ++ t2 ∉ zs ++ (["item"] : List Str) := by simpa using h2
          have l2 := ltp.app (tl t2 h1)
          refine ⟨_, .str (p ++ t2), .inl (SqL.of S9.hd), (show atI _ ((0 : Nat) : Int) = some _ from atI_nat rfl), _, p ++ t2, rfl, l2.wide (by decide) (by decide), fun h => no2 (List.mem_append_left _ h), fun h => no2 (List.mem_append_right _ (by rw [h]; simp)), fun h => ?_, S9.drop.drop⟩
          have l3 := l2.lo
          rw [h] at l3
          exact absurd l3 (by decide +kernel)
      · have e2 : inV (.str t) ((zs ++ (["item", "at"] : List Str)).map V.str) = false := e1
        rw [inV_str] at e2
        have no := of_decide_eq_false e2
        exact ⟨_, t, rfl, lt.wide (by decide) (by decide), fun h => no (List.mem_append_left _ h), fun h => no (List.mem_append_right _ (by rw [h]; simp)), fun h => no (List.mem_append_right _ (by rw [h]; simp)), S7⟩
    obtain ⟨y6, z, rfl, ltz, f1, f2, f3, S5⟩ := h
    refine ⟨.inl ⟨rfl, _, SqL.of S5.sw.hd⟩, l, _, _, rfl, rfl, S5.sw.hd, smallL (by rw [List.length_map]; omega), ?_⟩
    refine q z o4 _ ltz f1 f2 f3 B4 ?_
    rw [List.map_append]
    exact (S5.sw.set).sw

/-! ### owners are drawn -/
def StO (s : List Int) : Prop := s.length ≤ 3 ∧ ∀ n ∈ s, 0 ≤ n ∧ n < 16
def spStep : Sp := fun vs H Q _ => ∃ (G : Hp) (M : List (Addr × HO)) (b : Addr) (o : HO), vs = [.ref b] ∧ Sep G ((b, o) :: M) H ∧ Bag G o ∧
  ∀ (t : Addr) (s : List Int) (o' : HO) (G' H' : Hp), Same G G' → G' t = some (.tup (s.map V.int)) → StO s → Bag G' o' → Sep G' ((b, o') :: M) H' → Q (.ref t) H'
theorem ok_step (T : Top K mg w) {k : Nat} (G_pick : FnOk P w K mg base CX0 k T.a_pick T.d_pick ["_law_bag_here", "_law_many"] spPick) : FnOk P w K mg base CX0 (k + 1) T.a_step T.d_step ["_law_bag_here"] spStep := by
  refine T.F_step.ok sc_step (fun vs H Q E h => ?_) (fun cdv A outer s H vs Q E hr h => ?_)
  · obtain ⟨G, M, b, o, rfl, _⟩ := h
    rfl
  · obtain ⟨G, M, b, o, rfl, S, B, q⟩ := h
    refine ⟨_, (pss_cons (ps_set (i := 1) sc_step.nd rfl (.inl rfl) (pe_op op_addY pe_int (pe_call G_pick (hr.mono (by omega)) (by rfl) T.g_pick T.F_pick.kp T.b_pick .nil pass0 (pa_cons (xv 0) (pa_cons pe_int pa_nil)))))
      (pss_cons (xs_if (xt_cmp (op_eqLK K hr.u190) (pe_call G_pick (hr.mono (by omega)) (by rfl) T.g_pick T.F_pick.kp T.b_pick .nil pass0 (pa_cons (xv 0) (pa_cons pe_int pa_nil))) pe_int (nomark _))
      (pss_one (ps_ret (pe_tup (pa_cons (xv 1) pa_nil))))
      pss_nil)
      (pss_one (ps_ret (pe_tup (pa_cons (xv 1) (pa_cons (pe_call G_pick (hr.mono (by omega)) (by rfl) T.g_pick T.F_pick.kp T.b_pick .nil pass0 (pa_cons (xv 0) (pa_cons pe_int pa_nil))) (pa_cons (pe_call G_pick (hr.mono (by omega)) (by rfl) T.g_pick T.F_pick.kp T.b_pick .nil pass0 (pa_cons (xv 0) (pa_cons pe_int pa_nil))) pa_nil)))))))), ?_⟩
    refine ⟨G, M, b, o, 15, rfl, S, B, by decide, by decide, fun r1 o1 H1 r10 r11 B1 S1 => ?_⟩
    refine ⟨G, M, b, o1, 2, rfl, S1, B1, by decide, by decide, fun r2 o2 H2 _ _ B2 S2 => ⟨fun _ => ?_, fun _ => ?_⟩⟩
    · refine ⟨sz, fun t nt => ?_⟩
      obtain ⟨G3, s3, S3, h3⟩ := Sep.mk (o := .tup [.int (1 + r1)]) S2 nt
      refine q t [1 + r1] o2 G3 _ s3 h3 ⟨(show 1 ≤ 3 by decide), fun n hn => ?_⟩ (B2.same s3) S3
      rw [List.mem_singleton.mp hn]
      omega
    · refine ⟨G, M, b, o2, 10, rfl, S2, B2, by decide, by decide, fun r3 o3 H3 r30 r31 B3 S3 => ?_⟩
      refine ⟨G, M, b, o3, 5, rfl, S3, B3, by decide, by decide, fun r4 o4 H4 r40 r41 B4 S4 => ?_⟩
      refine ⟨sz, fun t nt => ?_⟩
      obtain ⟨G5, s5, S5, h5⟩ := Sep.mk (o := .tup [.int (1 + r1), .int r3, .int r4]) S4 nt
      refine q t [1 + r1, r3, r4] o4 G5 _ s5 h5 ⟨(show 3 ≤ 3 by decide), fun n hn => ?_⟩ (B4.same s5) S5
      simp only [List.mem_cons, List.not_mem_nil, or_false] at hn
      omega
def OwA (K : PySem.W.Frag) (G : Hp) (u : V) (o : Own) : Prop := Dp K G u (owD o) ∧ OwOk o
theorem OwA.same {K : PySem.W.Frag} {G G' : Hp} (s : Same G G') {u : V} {o : Own} (h : OwA K G u o) : OwA K G' u o := ⟨dp_same s h.1, h.2⟩
def spOwner (K : PySem.W.Frag) : Sp := fun vs H Q _ => ∃ (G : Hp) (M : List (Addr × HO)) (b l : Addr) (o : HO) (us : List V) (os : List Own), vs = [.ref b, .ref l] ∧ Sep G ((b, o) :: M) H ∧ Bag G o ∧ (∀ (G' H' : Hp) (o' : HO), Same G G' → Sep G' ((b, o') :: M) H' → SqL K H' l us) ∧ Paired (OwA K G) us os ∧ os.length ≤ 100 ∧
  ∀ (v : V) (ow : Own) (o' : HO) (G' H' : Hp), Same G G' → OwA K G' v ow → Bag G' o' → Sep G' ((b, o') :: M) H' → Q v H'
theorem dpa_dropLast {K : PySem.W.Frag} {G : Hp} {xs : List V} {ds : List PyData} (h : DpAll K G xs ds) : DpAll K G xs.dropLast ds.dropLast := by
  rw [List.dropLast_eq_take, List.dropLast_eq_take, dpa_len h]
  exact dpa_take _ h
theorem ok_owner (T : Top K mg w) {k : Nat} (G_pick : FnOk P w K mg base CX0 k T.a_pick T.d_pick ["_law_bag_here", "_law_many"] spPick) (G_step : FnOk P w K mg base CX0 k T.a_step T.d_step ["_law_bag_here"] spStep) : FnOk P w K mg base CX0 (k + 1) T.a_owner T.d_owner ["_law_bag_here", "_law_owners"] (spOwner K) := by
  refine T.F_owner.ok sc_owner (fun vs H Q E h => ?_) (fun cdv A outer s H vs Q E hr h => ?_)
  · obtain ⟨G, M, b, l, o, us, os, rfl, _⟩ := h
    rfl
  · obtain ⟨G, M, b, l, o, us, os, rfl, S, B, hl, hu, ol, q⟩ := h
    refine ⟨_, (pss_cons (ps_setLc (i := 2) (own := [("_law_step_here", 3)]) (by rfl) sc_owner.nd rfl rfl (sw_true rfl rfl rfl (by decide +kernel)) (pi_range1 (by rfl) T.m_range (pa_cons (pe_call G_pick (hr.mono (by omega)) (by rfl) T.g_pick T.F_pick.kp T.b_pick .nil pass0 (pa_cons (xv 0) (pa_cons pe_int pa_nil))) pa_nil)) (blkOk_by (N := ["_law_bag_here", "_law_owners", "_law_steps", "_law_step_here"]) (sc := defScope s_owner) (by decide +kernel)) (fun _ _ _ _ _ => (pg_name (i := 3) sc_owner.nd rfl (.inl rfl))) (fun _ _ _ _ _ => pts_nil) (fun _ _ _ _ _ => (pe_call G_step (hr.mono (by omega)) (by rfl) T.g_step T.F_step.kp T.b_step .nil pass0 (pa_cons (xv 0) pa_nil))))
      (xss_cut (xs_if (PW.pt (xw_and (xt_truK K (xv 1)) (pw_and1 (xt_cmp (op_eqLK K hr.u190) (pe_call G_pick (hr.mono (by omega)) (by rfl) T.g_pick T.F_pick.kp T.b_pick .nil pass0 (pa_cons (xv 0) (pa_cons pe_int pa_nil))) pe_int (nomark _)))))
      (pss_cons (ps_set (i := 2) sc_owner.nd rfl (.inl rfl) (pe_callTy (call_listK K) (by rfl) T.m_list (by decide +kernel) (pa_cons (pe_ix (ix_k K) (xv 1) (pe_call G_pick (hr.mono (by omega)) (by rfl) T.g_pick T.F_pick.kp T.b_pick .nil pass0 (pa_cons (xv 0) (pa_cons (pe_callB (cr_lenK K) (by rfl) T.m_len (by decide +kernel) (pa_cons (xv 1) pa_nil)) pa_nil))) (fun _ _ => rfl)) pa_nil)))
      (xss_cut (xs_if (PW.pt (xw_and (xt_truK K (xv 2)) (pw_and1 (PW.pt (xw_or (xt_cmp (op_eqLK K hr.u190) (pe_callB (cr_lenK K) (by rfl) T.m_len (by decide +kernel) (pa_cons (xv 2) pa_nil)) pe_int (nomark _)) (pw_or1 (xt_cmp (op_eqLK K hr.u190) (pe_call G_pick (hr.mono (by omega)) (by rfl) T.g_pick T.F_pick.kp T.b_pick .nil pass0 (pa_cons (xv 0) (pa_cons pe_int pa_nil))) pe_int (nomark _))))))))
      (pss_one (ps_expr (pe_bm0 PySem.F.plainAttrs_list PySem.F.slot_list_pop PySem.F.type_list_pop mt_pop (xv 2))))
      pss_nil)
      (pss_one (ps_expr (pe_bmK K PySem.F.plainAttrs_list PySem.F.slot_list_append PySem.F.type_list_append mt_append (xv 2) (pa_cons (pe_call G_step (hr.mono (by omega)) (by rfl) T.g_step T.F_step.kp T.b_step .nil pass0 (pa_cons (xv 0) pa_nil)) pa_nil))))))
      pss_nil)
      (pss_one (ps_ret (pe_callTy (call_tupleK K) (by rfl) T.m_tuple (by decide +kernel) (pa_cons (xv 2) pa_nil)))))), ?_⟩
    have ul := prd_len hu
    refine ⟨G, M, b, o, 4, rfl, S, B, by decide, by decide, fun r1 o1 H1 r10 r11 B1 S1 => ⟨r1, rfl, by omega, by omega, fun D nD => lc_range (lo := 0) (n := r1.toNat) (fun i H' => ∃ (o' : HO) (G' : Hp) (ss : List V) (ws : Own), Same G G' ∧ Bag G' o' ∧ Sep G' ((D, .lst ss) :: (b, o') :: M) H' ∧ DpAll K G' ss (ws.map itD) ∧ ws.length = i ∧ ∀ s ∈ ws, StO s) ⟨o1, G, [], [], Same.refl _, B1, S1.new nD, .nil, rfl, (fun _ h => nomatch h)⟩ (fun i H' hi p => ?_) (fun H' p => ?_)⟩⟩
    · obtain ⟨o', G', ss, ws, s', B', S', dp, wl, ok⟩ := p
      refine ⟨rfl, G', _, b, o', rfl, S'.sw, B', fun t s o2 G2 H2 s2 ht so B2 S2 => ?_⟩
      have sl := dpa_len dp
      rw [List.length_map] at sl
      refine ⟨ss, S2.sw.hd, smallL (by omega), o2, G2, ss ++ [.ref t], ws ++ [s], s'.trans s2, B2, S2.sw.set, ?_, by rw [List.length_append, wl]; rfl, fun x hx => ?_⟩
      · rw [List.map_append]
        exact dpa_app (dpa_same s2 dp) (dpa_one (dp_it ht))
      · rcases List.mem_append.mp hx with hx | hx
        · exact ok x hx
        · rw [List.mem_singleton.mp hx]; exact so
    obtain ⟨o2, G2, ss, ws, s2, B2, S2, dp, wl, ok⟩ := p
    refine ⟨fun σ H' => ∃ (y3 : Option V) (D : Addr) (o' : HO) (G' : Hp) (ss : List V) (ws : Own), σ = [some (.ref b), some (.ref l), some (.ref D), y3] ∧ Same G G' ∧ Bag G' o' ∧ Sep G' ((D, .lst ss) :: (b, o') :: M) H' ∧ DpAll K G' ss (ws.map itD) ∧ OwOk ws, ?_, fun σ H4 h => ?_⟩
    · have stay : ∀ (o' : HO) (H' : Hp), Bag G2 o' → Sep G2 ((D, .lst ss) :: (b, o') :: M) H' → ∃ (y3 : Option V) (D' : Addr) (o' : HO) (G' : Hp) (ss : List V) (ws : Own), ([some (.ref b), some (.ref l), some (.ref D), none] : L2.St) = [some (.ref b), some (.ref l), some (.ref D'), y3] ∧ Same G G' ∧ Bag G' o' ∧ Sep G' ((D', .lst ss) :: (b, o') :: M) H' ∧ DpAll K G' ss (ws.map itD) ∧ OwOk ws := fun o' H' B' S' => ⟨_, D, o', G2, ss, ws, rfl, s2, B', S', dp, by omega, ok⟩
      refine ⟨_, .inl ⟨_, hl _ _ _ s2 S2.drop, rfl⟩, fun ne => ⟨G2, _, b, o2, 3, rfl, S2.sw, B2, by decide, by decide, fun r4 o4 H4 _ _ B4 S4 => ⟨fun _ => ?_, fun _ => stay o4 H4 B4 S4.sw⟩⟩, fun _ => ⟨ff, fun _ => stay o2 _ B2 S2⟩⟩
      have z0 : 0 < us.length := by
        cases us with
        | nil => cases ne
        | cons _ _ => simp
      refine ⟨_, .inl (hl _ _ _ s2 S4.sw.drop), G2, _, b, o4, _, rfl, S4, B4, by omega, by omega, fun r5 o5 H5 r50 r51 B5 S5 => ?_⟩
      obtain ⟨v5, hv5, hm5⟩ := atI_in r50 r51
      obtain ⟨w5, hw5, hA⟩ := prd_get hu (atN r50 hv5)
      obtain ⟨a5, xs5, rfl, ht5, hd5⟩ := dp_tup hA.1
      refine ⟨_, _, .inl (hl _ _ _ s2 S5.sw.drop), hv5, a5, xs5, rfl, .inr (S5.t (same_t s2 ht5)), fun D2 nD2 => ?_⟩
      have S6 := (S5.new (o := .lst xs5) nD2).sw
      have S7 : Sep G2 ((D2, .lst xs5) :: (b, o5) :: M) _ := (S6.sw.perm (List.Perm.cons _ (List.Perm.swap _ _ _))).sw.drop
      have dp5 := dpa_same s2 hd5
      -- one step less, perhaps
      refine ⟨fun σ H' => ∃ (y3 : Option V) (o' : HO) (ss : List V) (ws : Own), σ = [some (.ref b), some (.ref l), some (.ref D2), y3] ∧ Bag G2 o' ∧ Sep G2 ((D2, .lst ss) :: (b, o') :: M) H' ∧ DpAll K G2 ss (ws.map itD) ∧ ws.length ≤ 4 ∧ ∀ s ∈ ws, StO s, ?_, fun σ H8 h => ?_⟩
      · have x5l := dpa_len dp5
        rw [List.length_map] at x5l
        have okw := hA.2
        have cut : ∀ (o' : HO) (H' : Hp), xs5 ≠ [] → Bag G2 o' → Sep G2 ((D2, .lst xs5) :: (b, o') :: M) H' → rPop (.ref D2) [] H' fun _ H9 => ∃ (y3 : Option V) (o' : HO) (ss : List V) (ws : Own), ([some (.ref b), some (.ref l), some (.ref D2), none] : L2.St) = [some (.ref b), some (.ref l), some (.ref D2), y3] ∧ Bag G2 o' ∧ Sep G2 ((D2, .lst ss) :: (b, o') :: M) H9 ∧ DpAll K G2 ss (ws.map itD) ∧ ws.length ≤ 4 ∧ ∀ s ∈ ws, StO s := fun o' H' ne B' S' => by
          have h0 : 0 < xs5.length := List.length_pos_iff.mpr ne
          refine ⟨D2, xs5, xs5[xs5.length - 1], rfl, rfl, S'.hd, List.getElem?_eq_getElem (by omega), _, o', xs5.dropLast, w5.dropLast, rfl, B', S'.set, ?_, ?_, fun x hx => okw.st x ((List.dropLast_sublist _).subset hx)⟩
          · rw [List.map_dropLast]
            exact dpa_dropLast dp5
          · have := okw.len
            rw [List.length_dropLast]
            omega
        refine ⟨_, .inl ⟨_, SqL.of S7.hd, rfl⟩, fun ne => ?_, fun em => ⟨ff, fun _ => ?_⟩⟩
        · have ne' : xs5 ≠ [] := fun e => by rw [e] at ne; cases ne
          refine ⟨_, .inl (SqL.of S7.hd), fun e5 => ⟨fun _ => ⟨.inl ⟨rfl, _, SqL.of S7.hd⟩, cut _ _ ne' B5 S7⟩, tt⟩, fun n5 => ?_⟩
          have l5 : ¬ ((xs5.length : Nat) : Int) = 5 := of_decide_eq_false n5
          have := okw.len
          refine ⟨G2, _, b, o5, 2, rfl, S7.sw, B5, by decide, by decide, fun r6 o6 H6 _ _ B6 S8 => ⟨fun _ => ⟨.inl ⟨rfl, _, SqL.of S8.sw.hd⟩, cut _ _ ne' B6 S8.sw⟩, fun _ => ?_⟩⟩
          exact ⟨_, o6, xs5, w5, rfl, B6, S8.sw, dp5, by omega, okw.st⟩
        · have e0 : xs5 = [] := by
            cases xs5 with
            | nil => rfl
            | cons _ _ => cases em
          rw [e0] at x5l
          refine ⟨_, o5, xs5, w5, rfl, B5, S7, dp5, ?_, okw.st⟩
          rw [← x5l]
          decide
      · obtain ⟨y3, o8, ss8, w8, rfl, B8, S8, dp8, l8, ok8⟩ := h
        refine ⟨.inl ⟨rfl, _, SqL.of S8.hd⟩, G2, _, b, o8, rfl, S8.sw, B8, fun t s o9 G9 H9 s9 ht so B9 S9 => ?_⟩
        have sl := dpa_len dp8
        rw [List.length_map] at sl
        refine ⟨D2, ss8, _, rfl, rfl, S9.sw.hd, smallL (by omega), ?_⟩
        refine ⟨_, D2, o9, G9, ss8 ++ [.ref t], w8 ++ [s], rfl, s2.trans s9, B9, S9.sw.set, ?_, ?_, fun x hx => ?_⟩
        · rw [List.map_append]
          exact dpa_app (dpa_same s9 dp8) (dpa_one (dp_it ht))
        · rw [List.length_append]
          show w8.length + 1 ≤ 5
          omega
        · rcases List.mem_append.mp hx with hx | hx
          · exact ok8 x hx
          · rw [List.mem_singleton.mp hx]; exact so
    · obtain ⟨y3, D4, o4, G4, ss4, w4, rfl, s4, B4, S4, dp4, ok4⟩ := h
      refine ⟨D4, ss4, rfl, .inl ⟨SqL.of S4.hd, fun t nt => ?_⟩⟩
      obtain ⟨G5, s5, S5, h5⟩ := Sep.mk (o := .tup ss4) S4.drop nt
      exact q _ w4 o4 G5 _ (s4.trans s5) ⟨.tup (SqT.of h5) (dpa_same s5 dp4), ok4⟩ (B4.same s5) S5

end
end K41
set_option Elab.async false
set_option linter.all false
set_option maxRecDepth 100000
set_option maxHeartbeats 4000000
namespace K41
open PySem PySem.Spec PyProof.Rows L2 XL
section
variable {P : Program} {w : World} {K : PySem.W.Frag} {mg : Str → Option Value} {base : Heap}
/-! ### pairs are drawn -/
abbrev Pr := Own × Str
def prD (p : Pr) : PyData := kyD p.1 p.2
def PrA (K : PySem.W.Frag) (G : Hp) (u : V) (p : Pr) : Prop := ∃ t ow, u = .ref t ∧ G t = some (.tup [ow, .str p.2]) ∧ Dp K G ow (owD p.1) ∧ OwOk p.1 ∧ Lt 1 8 p.2
theorem PrA.same {K : PySem.W.Frag} {G G' : Hp} (s : Same G G') {u : V} {p : Pr} (h : PrA K G u p) : PrA K G' u p := let ⟨t, ow, h1, h2, h3, h4⟩ := h; ⟨t, ow, h1, s _ _ h2, dp_same s h3, h4⟩
theorem prd_sameP {K : PySem.W.Frag} {G G' : Hp} (s : Same G G') {us : List V} {ps : List Pr} (h : Paired (PrA K G) us ps) : Paired (PrA K G') us ps := prd_imp (fun _ _ h => h.same s) h
theorem prd_sameO {K : PySem.W.Frag} {G G' : Hp} (s : Same G G') {us : List V} {os : List Own} (h : Paired (OwA K G) us os) : Paired (OwA K G') us os := prd_imp (fun _ _ h => h.same s) h
theorem OwA.nv {K : PySem.W.Frag} {G : Hp} {u : V} {o : Own} (h : OwA K G u o) : NV K 7 G u (owD o) := OwV.of h.1
theorem prd_cut {α β : Type} {F : α → β → Prop} : ∀ {xs ys : List α} {x : α} {bs : List β}, Paired F (xs ++ x :: ys) bs → ∃ ps b qs, bs = ps ++ b :: qs ∧ Paired F xs ps ∧ F x b ∧ Paired F ys qs
  | [], _, _, _, .cons r t => ⟨[], _, _, rfl, .nil, r, t⟩
  | _ :: xs, _, _, _, .cons (b := b) r t => by
    obtain ⟨ps, b', qs, rfl, h1, h2, h3⟩ := prd_cut (xs := xs) t
    exact ⟨b :: ps, b', qs, rfl, .cons r h1, h2, h3⟩
theorem prd_permP {α β : Type} {F : α → β → Prop} : ∀ {ys us : List α} {ps : List β}, Paired F us ps → ys.Perm us → ∃ qs, Paired F ys qs ∧ qs.Perm ps := by
  intro ys us ps h p
  induction p generalizing ps with
  | nil => cases h; exact ⟨[], .nil, .refl _⟩
  | @cons x l1 l2 _ ih =>
    match ps, h with
    | b :: bs, .cons r t =>
      obtain ⟨qs, h1, h2⟩ := ih t
      exact ⟨b :: qs, .cons r h1, h2.cons b⟩
  | swap x y l =>
    match ps, h with
    | a :: b :: bs, .cons r (.cons r2 t) => exact ⟨b :: a :: bs, .cons r2 (.cons r t), .swap _ _ _⟩
  | trans _ _ ih1 ih2 =>
    obtain ⟨qs, h1, h2⟩ := ih2 h
    obtain ⟨qs2, h3, h4⟩ := ih1 h1
    exact ⟨qs2, h3, h4.trans h2⟩
theorem fm_len : ∀ (os : List Own) (zs : List Str), (os.flatMap fun o => zs.map fun z => (o, z)).length = os.length * zs.length
  | [], _ => by simp
  | o :: os, zs => by
    rw [List.flatMap_cons, List.length_append, List.length_map, fm_len os zs, List.length_cons, Nat.add_mul, Nat.one_mul]
    omega
theorem fm_nodup {zs : List Str} : ∀ {os : List Own}, os.Nodup → zs.Nodup → (os.flatMap fun o => zs.map fun z => (o, z)).Nodup
  | [], _, _ => List.nodup_nil
  | o :: os, h, z => by
    rw [List.nodup_cons] at h
    rw [List.flatMap_cons, List.nodup_append]
    refine ⟨?_, fm_nodup h.2 z, fun x hx y hy e => ?_⟩
    · unfold List.Nodup at z ⊢
      rw [List.pairwise_map]
      exact z.imp fun n e => n (Prod.mk.inj e).2
    · subst e
      obtain ⟨z1, _, e1⟩ := List.mem_map.mp hx
      obtain ⟨o2, h2, h3⟩ := List.mem_flatMap.mp hy
      obtain ⟨z2, _, e2⟩ := List.mem_map.mp h3
      rw [← e1] at e2
      rw [← (Prod.mk.inj e2).1] at h
      exact h.1 h2
def spPairs : PySem.W.Frag → Sp := fun K vs H Q _ => ∃ (G : Hp) (M : List (Addr × HO)) (b : Addr) (o : HO) (m : Nat), vs = [.ref b, .int (m : Nat)] ∧ Sep G ((b, o) :: M) H ∧ Bag G o ∧ 1 ≤ m ∧ m ≤ 12 ∧
  ∀ (p : Addr) (ys : List V) (ps : List Pr) (o' : HO) (G' H' : Hp), Same G G' → G' p = some (.lst ys) → Paired (PrA K G') ys ps → ps.Nodup → 1 ≤ ps.length → ps.length ≤ 36 → Bag G' o' → Sep G' ((b, o') :: M) H' → Q (.ref p) H'
theorem ok_pairs (T : Top K mg w) {k : Nat} (G_pick : FnOk P w K mg base CX0 k T.a_pick T.d_pick ["_law_bag_here", "_law_many"] spPick) (G_new_name : FnOk P w K mg base CX0 k T.a_new_name T.d_new_name ["_law_bag_here", "_law_used"] spNew) (G_owner : FnOk P w K mg base CX0 k T.a_owner T.d_owner ["_law_bag_here", "_law_owners"] (spOwner K)) (G_mingled : FnOk P w K mg base CX0 k T.a_mingled T.d_mingled ["_law_bag_here", "_law_things"] (spMingled K)) : FnOk P w K mg base CX0 (k + 1) T.a_pairs T.d_pairs ["_law_bag_here", "_law_most"] (spPairs K) := by
  refine T.F_pairs.ok sc_pairs (fun vs H Q E h => ?_) (fun cdv A outer s H vs Q E hr h => ?_)
  · obtain ⟨G, M, b, o, m, rfl, _⟩ := h
    rfl
  · obtain ⟨G, M, b, o, m, rfl, S, B, m1, m2, q⟩ := h
    refine ⟨_, (pss_cons (ps_set (i := 2) sc_pairs.nd rfl (.inl rfl) (pe_lst pa_nil))
      (pss_cons (ps_for PassesOwn.never rfl (pi_range1 (by rfl) T.m_range (pa_cons (pe_op op_addY pe_int (pe_call G_pick (hr.mono (by omega)) (by rfl) T.g_pick T.F_pick.kp T.b_pick .nil pass0 (pa_cons (xv 0) (pa_cons pe_int pa_nil)))) pa_nil)) (pg_name (i := 3) sc_pairs.nd rfl (.inl rfl))
      (pss_one (ps_expr (pe_call G_new_name (hr.mono (by omega)) (by rfl) T.g_new_name T.F_new_name.kp T.b_new_name .nil pass0 (pa_cons (xv 0) (pa_cons (xv 2) pa_nil))))))
      (pss_cons (ps_set (i := 4) sc_pairs.nd rfl (.inl rfl) (pe_lst pa_nil))
      (pss_cons (ps_for PassesOwn.never rfl (pi_range1 (by rfl) T.m_range (pa_cons (xv 1) pa_nil)) (pg_name (i := 3) sc_pairs.nd rfl (.inl rfl))
      (pss_cons (ps_set (i := 5) sc_pairs.nd rfl (.inl rfl) (pe_call G_owner (hr.mono (by omega)) (by rfl) T.g_owner T.F_owner.kp T.b_owner .nil pass0 (pa_cons (xv 0) (pa_cons (xv 4) pa_nil))))
      (pss_one (xs_if (xt_cmp (notin_deepK K (u65 hr)) (xv 5) (xv 4) (by rfl))
      (pss_one (ps_expr (pe_bmK K PySem.F.plainAttrs_list PySem.F.slot_list_append PySem.F.type_list_append mt_append (xv 4) (pa_cons (xv 5) pa_nil))))
      pss_nil))))
      (pss_cons (ps_set (i := 6) sc_pairs.nd rfl (.inl rfl) (pe_lst pa_nil))
      (pss_cons (ps_for PassesOwn.never rfl (pi_listK K (xv 4)) (pg_name (i := 5) sc_pairs.nd rfl (.inl rfl))
      (pss_one (ps_for PassesOwn.never rfl (pi_listK K (xv 2)) (pg_name (i := 7) sc_pairs.nd rfl (.inl rfl))
      (pss_one (ps_expr (pe_bmK K PySem.F.plainAttrs_list PySem.F.slot_list_append PySem.F.type_list_append mt_append (xv 6) (pa_cons (pe_tup (pa_cons (xv 5) (pa_cons (xv 7) pa_nil))) pa_nil)))))))
      (pss_one (ps_ret (pe_call G_mingled (hr.mono (by omega)) (by rfl) T.g_mingled T.F_mingled.kp T.b_mingled .nil pass0 (pa_cons (xv 0) (pa_cons (xv 6) pa_nil))))))))))), ?_⟩
    -- words
    refine ⟨sz, fun Wd nW => ?_⟩
    have S1 := (S.new (o := .lst []) nW)
    refine ⟨G, _, b, o, 3, rfl, S1.sw, B, by decide, by decide, fun r1 o1 H1 r10 r11 B1 S2 => ⟨_, rfl, by omega, by omega, for_range (lo := 0) (n := (1 + r1).toNat) (fun i σ H' => ∃ (y3 y4 y5 y6 y7 : Option V) (o' : HO) (zs : List Str), σ = [some (.ref b), some (.int (m : Nat)), some (.ref Wd), y3, y4, y5, y6, y7] ∧ Bag G o' ∧ Sep G ((b, o') :: (Wd, .lst (zs.map V.str)) :: M) H' ∧ zs.length = i ∧ (∀ z ∈ zs, Lt 1 8 z) ∧ zs.Nodup) ⟨_, _, _, _, _, o1, [], rfl, B1, S2, rfl, (fun _ h => nomatch h), List.nodup_nil⟩ (fun i σ H' hi h => ?_) (fun σ H' h => ?_)⟩⟩
    · obtain ⟨y3, y4, y5, y6, y7, o', zs, rfl, B', S', zl, hz, nz⟩ := h
      refine ⟨G, M, b, o', Wd, zs, rfl, S', B', hz, by omega, fun z o2 H2 lt nin _ _ B2 S2 => ?_⟩
      refine ⟨_, _, _, _, _, o2, zs ++ [z], rfl, B2, S2, by rw [List.length_append, zl]; rfl, fun x hx => ?_, ?_⟩
      · rcases List.mem_append.mp hx with hx | hx
        · exact hz x hx
        · rw [List.mem_singleton.mp hx]; exact lt
      · rw [List.nodup_append]
        refine ⟨nz, by simp, fun x hx y hy e => nin ?_⟩
        rw [← List.mem_singleton.mp hy, ← e]
        exact hx
    obtain ⟨y3, y4, y5, y6, y7, o2, zs, rfl, B2, S2, zl, hz, nz⟩ := h
    have S3 := (S2.sw).frz
    have s3 := (S2.sw).frzS
    generalize hG3 : upd G Wd (.lst (zs.map V.str)) = G3 at S3 s3
    have hWd : G3 Wd = some (.lst (zs.map V.str)) := by rw [← hG3]; exact upd_same
    have B3 := B2.same s3
    -- owners
    refine ⟨sz, fun Ow nO => ?_⟩
    have S4 := (S3.new (o := .lst []) nO)
    refine ⟨_, rfl, by omega, by omega, for_range (lo := 0) (n := ((m : Nat) : Int).toNat) (fun i σ H' => ∃ (y3 y5 y6 y7 : Option V) (o' : HO) (G' : Hp) (us : List V) (os : List Own), σ = [some (.ref b), some (.int (m : Nat)), some (.ref Wd), y3, some (.ref Ow), y5, y6, y7] ∧ Same G3 G' ∧ Bag G' o' ∧ Sep G' ((Ow, .lst us) :: (b, o') :: M) H' ∧ Paired (OwA K G') us os ∧ os.length ≤ i ∧ (1 ≤ i → 1 ≤ os.length) ∧ os.Nodup) ⟨_, _, _, _, o2, G3, [], [], rfl, Same.refl _, B3, S4, .nil, Nat.le_refl _, (fun h => absurd h (by decide)), List.nodup_nil⟩ (fun i σ H' hi h => ?_) (fun σ H' h => ?_)⟩
    · obtain ⟨y3, y5, y6, y7, o', G4, us, os, rfl, s4, B', S', hu, ol, o1l, no⟩ := h
      have ul := prd_len hu
      rw [Int.toNat_natCast] at hi
      refine ⟨G4, (Ow, .lst us) :: M, b, Ow, o', us, os, rfl, S'.sw, B', (fun G' H' o' _ S => SqL.of S.sw.hd), hu, by omega, fun v ow o5 G5 H5 s5 hv B5 S5 => ?_⟩
      have hv' := hv
      obtain ⟨va, _, rfl, _, _⟩ := dp_tup hv'.1
      have hu5 := prd_sameO s5 hu
      have S6 := S5.sw
      obtain ⟨d, ds, g1, g2, g3, g4, g5⟩ := in_dat (m := 7) (by decide) (hv.nv.same S6.1) (SqL.of (K := K) S6.hd) (prd_map (fun _ _ h => h.nv) (prd_imp (fun _ _ h => h.same S6.1) hu5))
      refine ⟨d, ds, g1, g2, g3, g4, ?_⟩
      rw [g5]
      by_cases hin : owD ow ∈ os.map owD <;> (first | rw [decide_eq_true hin] | rw [decide_eq_false hin])
      rotate_left
      have nin := hin
      refine ⟨fun _ => ?_, tt⟩
      rotate_left
      refine ⟨ff, fun _ => ?_⟩
      · refine ⟨_, _, _, _, o5, G5, us, os, rfl, s4.trans s5, B5, S6, hu5, by omega, fun _ => ?_, no⟩
        obtain ⟨x, hx, _⟩ := List.mem_map.mp hin
        exact List.length_pos_of_mem hx
      · refine ⟨.inl ⟨rfl, _, SqL.of S6.hd⟩, Ow, us, _, rfl, rfl, S6.hd, smallL (by omega), ?_⟩
        refine ⟨_, _, _, _, o5, G5, us ++ [.ref va], os ++ [ow], rfl, s4.trans s5, B5, S6.set, prd_app hu5 (.cons hv .nil), by rw [List.length_append]; show os.length + 1 ≤ i + 1; omega, fun _ => by rw [List.length_append]; show 1 ≤ os.length + 1; omega, ?_⟩
        rw [List.nodup_append]
        refine ⟨no, by simp, fun x hx y hy e => nin ?_⟩
        rw [← List.mem_singleton.mp hy, ← e]
        exact List.mem_map_of_mem hx
    obtain ⟨y3, y5, y6, y7, o4, G4, us, os, rfl, s4, B4, S4, hu, ol, o1l, no⟩ := h
    rw [Int.toNat_natCast] at ol o1l
    have o1 := o1l m1
    have ul := prd_len hu
    have S5 := S4.frz
    have s5 := S4.frzS
    generalize hG5 : upd G4 Ow (.lst us) = G5 at S5 s5
    have hOw : G5 Ow = some (.lst us) := by rw [← hG5]; exact upd_same
    have B5 := B4.same s5
    have hu5 := prd_sameO s5 hu
    have s35 := s4.trans s5
    have z3 : zs.length ≤ 3 := by omega
    have z1 : 1 ≤ zs.length := by omega
    -- pairs
    refine ⟨sz, fun Pp nP => ?_⟩
    have S6 := (S5.new (o := .lst []) nP)
    refine ⟨Ow, rfl, ⟨_, SqL.of (S6.st hOw)⟩, for_list (xs := us) (fun i σ H' => ∃ (y3 y5 y7 : Option V) (G' : Hp) (qs : List V), σ = [some (.ref b), some (.int (m : Nat)), some (.ref Wd), y3, some (.ref Ow), y5, some (.ref Pp), y7] ∧ Same G5 G' ∧ Sep G' ((Pp, .lst qs) :: (b, o4) :: M) H' ∧ Paired (PrA K G') qs ((os.take i).flatMap fun o => zs.map fun z => (o, z))) ⟨_, _, _, G5, [], rfl, Same.refl _, S6, .nil⟩ (fun i σ H' _ h => ?_) (fun i x σ H' hx h => ?_) (fun σ H' h => ?_)⟩
    · obtain ⟨_, _, _, G', _, _, s', S', _⟩ := h
      exact SqL.of (S'.st (s' _ _ hOw))
    · obtain ⟨y3, y5, y7, G6, qs, rfl, s6, S7, hq⟩ := h
      obtain ⟨ow, how, hA⟩ := prd_get hu5 hx
      obtain ⟨va, _, rfl, _, _⟩ := dp_tup hA.1
      have il := (List.getElem?_eq_some_iff.mp how).1
      have tl : (os.take i).length ≤ 11 := by rw [List.length_take]; omega
      refine ⟨Wd, rfl, ⟨_, SqL.of (S7.st ((s35.trans s6) _ _ hWd))⟩, for_list (xs := zs.map V.str) (fun j σ H' => ∃ (y3 y7 : Option V) (G' : Hp) (qs : List V), σ = [some (.ref b), some (.int (m : Nat)), some (.ref Wd), y3, some (.ref Ow), some (.ref va), some (.ref Pp), y7] ∧ Same G5 G' ∧ Sep G' ((Pp, .lst qs) :: (b, o4) :: M) H' ∧ Paired (PrA K G') qs (((os.take i).flatMap fun o => zs.map fun z => (o, z)) ++ (zs.take j).map fun z => (ow, z))) ⟨_, _, G6, qs, rfl, s6, S7, by rw [List.take_zero, List.map_nil, List.append_nil]; exact hq⟩ (fun j σ H' _ h => ?_) (fun j x σ H' hx2 h => ?_) (fun σ H' h => ?_)⟩
      · obtain ⟨_, _, G', _, _, s', S', _⟩ := h
        exact SqL.of (S'.st ((s35.trans s') _ _ hWd))
      · obtain ⟨y3, y7, G7, qs, rfl, s7, S8, hq⟩ := h
        rw [List.getElem?_map] at hx2
        obtain ⟨z, hz2, rfl⟩ := Option.map_eq_some_iff.mp hx2
        have ql := prd_len hq
        rw [List.length_append, fm_len, List.length_map] at ql
        have zj : (zs.take j).length ≤ zs.length := by rw [List.length_take]; omega
        have mul : (os.take i).length * zs.length ≤ 11 * 3 := Nat.mul_le_mul tl z3
        refine ⟨.inl ⟨rfl, _, SqL.of S8.hd⟩, sz, fun t nt => ?_⟩
        obtain ⟨G9, s9, S9, h9⟩ := Sep.mk (o := .tup [.ref va, .str z]) S8 nt
        refine ⟨Pp, qs, _, rfl, rfl, S9.hd, smallL (by omega), ?_⟩
        refine ⟨_, _, G9, qs ++ [.ref t], rfl, s7.trans s9, S9.set, ?_⟩
        rw [take_snoc hz2, List.map_append, ← List.append_assoc]
        exact prd_app (prd_sameP s9 hq) (.cons ⟨t, .ref va, rfl, h9, dp_same (s7.trans s9) hA.1, hA.2, hz z (List.mem_of_getElem? hz2)⟩ .nil)
      · obtain ⟨y3, y7, G7, qs, rfl, s7, S8, hq⟩ := h
        rw [List.length_map, List.take_length] at hq
        refine ⟨_, _, _, G7, qs, rfl, s7, S8, ?_⟩
        rw [take_snoc how, List.flatMap_append]
        simpa using hq
    · obtain ⟨y3, y5, y7, G6, qs, rfl, s6, S7, hq⟩ := h
      rw [ul, List.take_length] at hq
      have S8 := S7.frz
      have s8 := S7.frzS
      generalize hG8 : upd G6 Pp (.lst qs) = G8 at S8 s8
      have hPp : G8 Pp = some (.lst qs) := by rw [← hG8]; exact upd_same
      have hq8 := prd_sameP s8 hq
      have fl := fm_len os zs
      have mul : os.length * zs.length ≤ 12 * 3 := Nat.mul_le_mul (by omega) z3
      have mul1 : 1 * 1 ≤ os.length * zs.length := Nat.mul_le_mul o1 z1
      have nd : (os.flatMap fun o => zs.map fun z => (o, z)).Nodup := fm_nodup no nz
      have ql := prd_len hq8
      refine ⟨G8, M, b, o4, Pp, qs, rfl, S8, B5.same (s6.trans s8), SqL.of hPp, by omega, fun p ys o9 G9 H9 s9 hp pm B9 S9 => ?_⟩
      obtain ⟨ps, hps, pp⟩ := prd_permP (prd_sameP s9 hq8) pm
      exact q p ys ps o9 G9 H9 ((((s3.trans s35).trans s6).trans s8).trans s9) hp hps (pp.nodup_iff.mpr nd) (by rw [pp.length_eq]; omega) (by rw [pp.length_eq]; omega) B9 S9

end
end K41
set_option Elab.async false
set_option linter.all false
set_option maxRecDepth 100000
set_option maxHeartbeats 4000000
namespace K41
open PySem PySem.Spec PyProof.Rows L2 XL
section
variable {P : Program} {w : World} {K : PySem.W.Frag} {mg : Str → Option Value} {base : Heap}
/-! ### what an effect looked at is drawn -/
theorem ixN_ok {k : Int} {n : Nat} (h0 : 0 ≤ k) (h1 : k < n) : ixN n k = some k.toNat := by
  unfold ixN
  rw [if_pos h0, if_pos (by omega)]
def spSeen : Sp := fun vs H Q _ => ∃ (G : Hp) (M : List (Addr × HO)) (b sn : Addr) (o : HO) (ns : List Int), vs = [.ref b, .ref sn] ∧ Sep G ((b, o) :: M) H ∧ Bag G o ∧ G sn = some (.tup (ns.map V.int)) ∧ ns.length ≤ 13 ∧
  ∀ (t : Addr) (ms : List Int) (o' : HO) (G' H' : Hp), Same G G' → G' t = some (.tup (ms.map V.int)) → ms.length ≤ 13 → Bag G' o' → Sep G' ((b, o') :: M) H' → Q (.ref t) H'
theorem ok_seen (T : Top K mg w) {k : Nat} (G_pick : FnOk P w K mg base CX0 k T.a_pick T.d_pick ["_law_bag_here", "_law_many"] spPick) : FnOk P w K mg base CX0 (k + 1) T.a_seen T.d_seen ["_law_bag_here", "_law_seen_here"] spSeen := by
  refine T.F_seen.ok sc_seen (fun vs H Q E h => ?_) (fun cdv A outer s H vs Q E hr h => ?_)
  · obtain ⟨G, M, b, sn, o, ns, rfl, _⟩ := h
    rfl
  · obtain ⟨G, M, b, sn, o, ns, rfl, S, B, hs, nl, q⟩ := h
    refine ⟨_, (pss_cons (ps_set (i := 2) sc_seen.nd rfl (.inl rfl) (pe_callTy (call_listK K) (by rfl) T.m_list (by decide +kernel) (pa_cons (xv 1) pa_nil)))
      (pss_cons (ps_set (i := 3) sc_seen.nd rfl (.inl rfl) (pe_call G_pick (hr.mono (by omega)) (by rfl) T.g_pick T.F_pick.kp T.b_pick .nil pass0 (pa_cons (xv 0) (pa_cons pe_int pa_nil))))
      (xss_cut (xs_if (PW.pt (xw_and (xt_truK K (xv 2)) (pw_and1 (xt_cmp (op_eqLK K hr.u190) (xv 3) pe_int (nomark _)))))
      (pss_one (ps_asg (pe_call G_pick (hr.mono (by omega)) (by rfl) T.g_pick T.F_pick.kp T.b_pick .nil pass0 (pa_cons (xv 0) (pa_cons pe_int pa_nil))) (pg_sub (xv 2) (pe_call G_pick (hr.mono (by omega)) (by rfl) T.g_pick T.F_pick.kp T.b_pick .nil pass0 (pa_cons (xv 0) (pa_cons (pe_callB (cr_lenK K) (by rfl) T.m_len (by decide +kernel) (pa_cons (xv 2) pa_nil)) pa_nil))) set_list)))
      (pss_one (xs_if (PW.pt (xw_and (xt_truK K (xv 2)) (pw_and1 (xt_cmp (op_eqLK K hr.u190) (xv 3) pe_int (nomark _)))))
      (pss_one (ps_expr (pe_bm0 PySem.F.plainAttrs_list PySem.F.slot_list_pop PySem.F.type_list_pop mt_pop (xv 2))))
      (pss_one (xs_if (PW.pt (xw_and (xt_cmp (op_eqLK K hr.u190) (xv 3) pe_int (nomark _)) (pw_and1 (xt_cmp op_ltY (pe_callB (cr_lenK K) (by rfl) T.m_len (by decide +kernel) (pa_cons (xv 2) pa_nil)) pe_int (nomark _)))))
      (pss_one (ps_expr (pe_bmK K PySem.F.plainAttrs_list PySem.F.slot_list_append PySem.F.type_list_append mt_append (xv 2) (pa_cons (pe_call G_pick (hr.mono (by omega)) (by rfl) T.g_pick T.F_pick.kp T.b_pick .nil pass0 (pa_cons (xv 0) (pa_cons pe_int pa_nil))) pa_nil))))
      (pss_one (ps_setLc (i := 2) (own := [("_law_step_here", 4)]) (by rfl) sc_seen.nd rfl rfl (sw_true rfl rfl rfl (by decide +kernel)) (pi_range1 (by rfl) T.m_range (pa_cons (pe_call G_pick (hr.mono (by omega)) (by rfl) T.g_pick T.F_pick.kp T.b_pick .nil pass0 (pa_cons (xv 0) (pa_cons pe_int pa_nil))) pa_nil)) (blkOk_by (N := ["_law_bag_here", "_law_seen_here", "_law_row", "_law_way", "_law_step_here"]) (sc := defScope s_seen) (by decide +kernel)) (fun _ _ _ _ _ => (pg_name (i := 4) sc_seen.nd rfl (.inl rfl))) (fun _ _ _ _ _ => pts_nil) (fun _ _ _ _ _ => (pe_call G_pick (hr.mono (by omega)) (by rfl) T.g_pick T.F_pick.kp T.b_pick .nil pass0 (pa_cons (xv 0) (pa_cons pe_int pa_nil)))))))))))
      (pss_one (ps_ret (pe_callTy (call_tupleK K) (by rfl) T.m_tuple (by decide +kernel) (pa_cons (xv 2) pa_nil))))))), ?_⟩
    refine ⟨sn, _, rfl, .inr (S.t (SqT.of hs)), fun D nD => ?_⟩
    have S1 := S.new (o := .lst (ns.map V.int)) nD
    refine ⟨G, _, b, o, 4, rfl, S1.sw, B, by decide, by decide, fun wy o1 H1 w0 w1 B1 S2 => ?_⟩
    have S2 := S2.sw
    have ln : (ns.map V.int).length = ns.length := List.length_map _
    refine ⟨fun σ H' => ∃ (y4 : Option V) (D : Addr) (o' : HO) (ms : List Int), σ = [some (.ref b), some (.ref sn), some (.ref D), some (.int wy), y4] ∧ Bag G o' ∧ Sep G ((D, .lst (ms.map V.int)) :: (b, o') :: M) H' ∧ ms.length ≤ 13, ?_, fun σ H4 h => ?_⟩
    · have pos : ∀ {Z : Bool}, Z = !(ns.map V.int).isEmpty → Z = true → 0 < ns.length := fun e h => by
        rw [e] at h
        cases ns with
        | nil => cases h
        | cons _ _ => simp
      refine ⟨_, .inl ⟨_, SqL.of S2.hd, rfl⟩, fun ne => ⟨fun _ => ?a1, fun e0 => ?r1⟩, fun em => ⟨ff, fun _ => ?r2⟩⟩
      case a1 =>
        have z0 : 0 < ns.length := by
          cases ns with
          | nil => cases ne
          | cons _ _ => simp
        refine ⟨G, _, b, o1, 10, rfl, S2.sw, B1, by decide, by decide, fun v2 o2 H2 _ _ B2 S3 => ?_⟩
        refine ⟨_, .inl (SqL.of S3.sw.hd), G, _, b, o2, _, rfl, S3, B2, by omega, by omega, fun i3 o3 H3 i30 i31 B3 S4 => ?_⟩
        refine ⟨D, _, i3, i3.toNat, rfl, rfl, S4.sw.hd, ixN_ok i30 i31, ?_⟩
        refine ⟨_, D, o3, ns.set i3.toNat v2, rfl, B3, ?_, by rw [List.length_set]; exact nl⟩
        rw [List.map_set]
        exact S4.sw.set
      case r1 | r2 =>
        refine ⟨_, .inl ⟨_, SqL.of S2.hd, rfl⟩, fun ne => ⟨fun _ => ?a2, fun e0 => ?r3⟩, fun em => ⟨ff, fun _ => ?r4⟩⟩
        case a2 =>
          have z0 : 0 < ns.length := by
            cases ns with
            | nil => cases ne
            | cons _ _ => simp
          have z1 : 0 < (ns.map V.int).length := by omega
          refine ⟨.inl ⟨rfl, _, SqL.of S2.hd⟩, D, _, (ns.map V.int)[(ns.map V.int).length - 1], rfl, rfl, S2.hd, List.getElem?_eq_getElem (by omega), ?_⟩
          refine ⟨_, D, o1, ns.dropLast, rfl, B1, ?_, by rw [List.length_dropLast]; omega⟩
          rw [List.map_dropLast]
          exact S2.set
        case r3 | r4 =>
          refine ⟨fun _ => ⟨_, .inl (SqL.of S2.hd), fun l13 => ?_, fun _ => ?r5⟩, fun _ => ⟨ff, fun _ => ?r6⟩⟩
          · refine ⟨.inl ⟨rfl, _, SqL.of S2.hd⟩, G, _, b, o1, 10, rfl, S2.sw, B1, by decide, by decide, fun v2 o2 H2 _ _ B2 S3 => ?_⟩
            have l13 : ((ns.map V.int).length : Int) < 13 := of_decide_eq_true l13
            refine ⟨D, _, _, rfl, rfl, S3.sw.hd, smallL (by omega), ?_⟩
            refine ⟨_, D, o2, ns ++ [v2], rfl, B2, ?_, by rw [List.length_append]; show ns.length + 1 ≤ 13; omega⟩
            rw [List.map_append]
            exact S3.sw.set
          case r5 | r6 =>
            refine ⟨G, _, b, o1, 4, rfl, S2.sw, B1, by decide, by decide, fun r1 o2 H2 r10 r11 B2 S3 => ⟨r1, rfl, by omega, by omega, fun D2 nD2 => lc_range (lo := 0) (n := r1.toNat) (fun i H' => ∃ (o' : HO) (ms : List Int), Bag G o' ∧ Sep G ((D2, .lst (ms.map V.int)) :: (b, o') :: (D, .lst (ns.map V.int)) :: M) H' ∧ ms.length = i) ⟨o2, [], B2, S3.new nD2, rfl⟩ (fun i H' hi p => ?_) (fun H' p => ?_)⟩⟩
            · obtain ⟨o', ms, B', S', ml⟩ := p
              refine ⟨rfl, G, _, b, o', 3, rfl, S'.sw, B', by decide, by decide, fun v2 o3 H3 _ _ B3 S4 => ?_⟩
              refine ⟨_, S4.sw.hd, smallL (by rw [List.length_map]; omega), o3, ms ++ [v2], B3, ?_, by rw [List.length_append, ml]; rfl⟩
              rw [List.map_append]
              exact S4.sw.set
            · obtain ⟨o', ms, B', S', ml⟩ := p
              exact ⟨_, D2, o', ms, rfl, B', ((S'.perm (List.Perm.cons _ (List.Perm.swap _ _ _))).sw).drop, by omega⟩
    · obtain ⟨y4, D, o', ms, rfl, B', S', ml⟩ := h
      refine ⟨D, _, rfl, .inl ⟨SqL.of S'.hd, fun t nt => ?_⟩⟩
      obtain ⟨G5, s5, S5, h5⟩ := Sep.mk (o := .tup (ms.map V.int)) S'.drop nt
      exact q t ms o' G5 _ s5 h5 ml (B'.same s5) S5
/-- what each pair was told with at last -/
def Bf (G : Hp) (kvs : List (PyData × V)) : Prop := ∀ k v, valV kvs k = some v → ∃ (t sn : Addr) (n : Int) (ns : List Int), v = .ref t ∧ G t = some (.tup [.int n, .ref sn]) ∧ G sn = some (.tup (ns.map V.int)) ∧ ns.length ≤ 13
theorem Bf.same {G G' : Hp} (s : Same G G') {kvs : List (PyData × V)} (h : Bf G kvs) : Bf G' kvs := fun k v e => let ⟨t, sn, n, ns, h1, h2, h3, h4⟩ := h k v e; ⟨t, sn, n, ns, h1, s _ _ h2, s _ _ h3, h4⟩
theorem Bf.put {G : Hp} {kvs : List (PyData × V)} (h : Bf G kvs) (k : PyData) {t sn : Addr} {n : Int} {ns : List Int} (h1 : G t = some (.tup [.int n, .ref sn])) (h2 : G sn = some (.tup (ns.map V.int))) (h3 : ns.length ≤ 13) : Bf G (putK kvs k (.ref t)) := fun j v e => by
  rw [valV_put] at e
  by_cases c : j = k
  · rw [if_pos c] at e
    cases e
    exact ⟨t, sn, n, ns, rfl, h1, h2, h3⟩
  · rw [if_neg c] at e
    exact h j v e
theorem put_len (kvs : List (PyData × V)) (k : PyData) (v : V) : (putK kvs k v).length ≤ kvs.length + 1 := by
  unfold putK
  split
  · rw [List.length_map]; omega
  · rw [List.length_append]; exact Nat.le_refl _
def spEntries (K : PySem.W.Frag) (w : World) : Sp := fun vs H Q _ => ∃ (G : Hp) (M : List (Addr × HO)) (b l W : Addr) (o od : HO) (ys : List V) (ps : List Pr) (kvs : List (PyData × V)) (m : Nat), vs = [.ref b, .ref l, .ref W] ∧ Sep G ((b, o) :: (W, od) :: M) H ∧ Bag G o ∧ SqL K G l ys ∧ Paired (PrA K G) ys ps ∧ ps.Nodup ∧ ps.length ≤ 36 ∧ DD K w G W od kvs ∧ Bf G kvs ∧ kvs.length ≤ m ∧ m ≤ 1000 ∧
  ∀ (R : Addr) (zs : List V) (es : List En) (o' od' : HO) (kvs' : List (PyData × V)) (G' H' : Hp), Same G G' → Sep G' ((R, .lst zs) :: (b, o') :: (W, od') :: M) H' → Paired (EnA K G') zs es → (es.map En.pr).Nodup → es.length ≤ 36 → Bag G' o' → DD K w G' W od' kvs' → Bf G' kvs' → kvs'.length ≤ m + 36 → Q (.ref R) H'
theorem ok_entries (T : Top K mg w) {k : Nat} (G_pick : FnOk P w K mg base CX0 k T.a_pick T.d_pick ["_law_bag_here", "_law_many"] spPick) (G_seen : FnOk P w K mg base CX0 k T.a_seen T.d_seen ["_law_bag_here", "_law_seen_here"] spSeen) (G_mingled : FnOk P w K mg base CX0 k T.a_mingled T.d_mingled ["_law_bag_here", "_law_things"] (spMingled K)) : FnOk P w K mg base CX0 (k + 1) T.a_entries T.d_entries ["_law_bag_here", "_law_pairs_here", "_law_before"] (spEntries K w) := by
  refine T.F_entries.ok sc_entries (fun vs H Q E h => ?_) (fun cdv A outer s H vs Q E hr h => ?_)
  · obtain ⟨G, M, b, l, W, o, od, ys, ps, kvs, m, rfl, _⟩ := h
    rfl
  · obtain ⟨G, M, b, l, W, o, od, ys, ps, kvs, m, rfl, S, B, hl, hy, nd, pl, dd, bf, kl, m1, q⟩ := h
    refine ⟨_, (pss_cons (ps_set (i := 3) sc_entries.nd rfl (.inl rfl) (pe_callTy (call_listK K) (by rfl) T.m_list (by decide +kernel) (pa_cons (xv 1) pa_nil)))
      (xss_cut (xs_if (xt_cmp (op_eqLK K hr.u190) (pe_call G_pick (hr.mono (by omega)) (by rfl) T.g_pick T.F_pick.kp T.b_pick .nil pass0 (pa_cons (xv 0) (pa_cons pe_int pa_nil))) pe_int (nomark _))
      (pss_one (ps_set (i := 3) sc_entries.nd rfl (.inl rfl) (pe_call G_mingled (hr.mono (by omega)) (by rfl) T.g_mingled T.F_mingled.kp T.b_mingled .nil pass0 (pa_cons (xv 0) (pa_cons (xv 1) pa_nil)))))
      pss_nil)
      (pss_cons (ps_set (i := 4) sc_entries.nd rfl (.inl rfl) (pe_lst pa_nil))
      (pss_cons (ps_for PassesOwn.never rfl (pi_listK K (xv 3)) (pg_name (i := 5) sc_entries.nd rfl (.inl rfl))
      (pss_cons (ps_set (i := 6) sc_entries.nd rfl (.inl rfl) (pe_call G_pick (hr.mono (by omega)) (by rfl) T.g_pick T.F_pick.kp T.b_pick .nil pass0 (pa_cons (xv 0) (pa_cons pe_int pa_nil))))
      (pss_one (xs_if (xt_cmp op_ltY (xv 6) pe_int (nomark _))
      (xss_cut (xs_if (pt_cmp (pc_ddnotin K w hr.u9 (xv 5) (xv 2)))
      (pss_one (ps_ddput K w hr.u9 (xv 2) (xv 5) (pe_tup (pa_cons (pe_call G_pick (hr.mono (by omega)) (by rfl) T.g_pick T.F_pick.kp T.b_pick .nil pass0 (pa_cons (xv 0) (pa_cons pe_int pa_nil))) (pa_cons (pe_tup (pa_cons (pe_call G_pick (hr.mono (by omega)) (by rfl) T.g_pick T.F_pick.kp T.b_pick .nil pass0 (pa_cons (xv 0) (pa_cons pe_int pa_nil))) pa_nil)) pa_nil))) rfl))
      pss_nil)
      (pss_cons (ps_asg (pe_ddget K w hr.u9 (xv 2) (xv 5) (fun _ _ => rfl)) (pg_tupK K 2 (pgs_cons (pg_name (i := 7) sc_entries.nd rfl (.inl rfl)) (pgs_cons (pg_name (i := 8) sc_entries.nd rfl (.inl rfl)) pgs_nil))))
      (xss_cut (xs_if (PW.pt (xw_or (xt_cmp (op_eqLK K hr.u190) (xv 6) pe_int (nomark _)) (pw_or1 (xt_cmp (op_eqLK K hr.u190) (xv 6) pe_int (nomark _)))))
      (pss_one (ps_set (i := 7) sc_entries.nd rfl (.inl rfl) (pe_call G_pick (hr.mono (by omega)) (by rfl) T.g_pick T.F_pick.kp T.b_pick .nil pass0 (pa_cons (xv 0) (pa_cons pe_int pa_nil)))))
      pss_nil)
      (xss_cut (xs_if (PW.pt (xw_or (xt_cmp (op_eqLK K hr.u190) (xv 6) pe_int (nomark _)) (pw_or1 (xt_cmp (op_eqLK K hr.u190) (xv 6) pe_int (nomark _)))))
      (pss_one (ps_set (i := 8) sc_entries.nd rfl (.inl rfl) (pe_call G_seen (hr.mono (by omega)) (by rfl) T.g_seen T.F_seen.kp T.b_seen .nil pass0 (pa_cons (xv 0) (pa_cons (xv 8) pa_nil)))))
      pss_nil)
      (pss_cons (ps_ddput K w hr.u9 (xv 2) (xv 5) (pe_tup (pa_cons (xv 7) (pa_cons (xv 8) pa_nil))) rfl)
      (pss_one (ps_expr (pe_bmK K PySem.F.plainAttrs_list PySem.F.slot_list_append PySem.F.type_list_append mt_append (xv 4) (pa_cons (pe_tup (pa_cons (pe_ix (ix_k K) (xv 5) pe_int (fun _ _ => rfl)) (pa_cons (pe_ix (ix_k K) (xv 5) pe_int (fun _ _ => rfl)) (pa_cons (xv 7) (pa_cons (xv 8) pa_nil))))) pa_nil)))))))))
      pss_nil))))
      (pss_one (ps_ret (xv 4))))))), ?_⟩
    have yl := prd_len hy
    refine ⟨l, ys, rfl, .inl (S.l hl), fun D nD => ?_⟩
    obtain ⟨G1, s1, S1, hD⟩ := Sep.mk (o := .lst ys) S nD
    refine ⟨fun σ H' => ∃ (q : Addr) (o' : HO) (G' : Hp) (ys2 : List V) (ps2 : List Pr), σ = [some (.ref b), some (.ref l), some (.ref W), some (.ref q), none, none, none, none, none] ∧ Same G G' ∧ Bag G' o' ∧ Sep G' ((b, o') :: (W, od) :: M) H' ∧ G' q = some (.lst ys2) ∧ Paired (PrA K G') ys2 ps2 ∧ ps2.Perm ps, ?_, fun σ H2 h => ?_⟩
    · refine ⟨G1, _, b, o, 2, rfl, S1, B.same s1, by decide, by decide, fun r1 o1 H1 _ _ B1 S2 => ⟨fun _ => ?_, fun _ => ?_⟩⟩
      · refine ⟨G1, _, b, o1, l, ys, rfl, S2, B1, same_l s1 hl, by omega, fun p ys2 o2 G2 H2 s2 hp pm B2 S3 => ?_⟩
        obtain ⟨ps2, hps, pp⟩ := prd_permP (prd_sameP (s1.trans s2) hy) pm
        exact ⟨p, o2, G2, ys2, ps2, rfl, s1.trans s2, B2, S3, hp, hps, pp⟩
      · exact ⟨D, o1, G1, ys, ps, rfl, s1, B1, S2, hD, prd_sameP s1 hy, .refl _⟩
    obtain ⟨q2, o2, G2, ys2, ps2, rfl, s2, B2, S2, hq2, hps, pp⟩ := h
    have y2l := prd_len hps
    have p2l := pp.length_eq
    refine ⟨sz, fun R nR => ?_⟩
    have S3 := S2.new (o := .lst []) nR
    refine ⟨q2, rfl, ⟨_, SqL.of (S3.st hq2)⟩, for_list (xs := ys2) (fun i σ H' => ∃ (y5 y6 y7 y8 : Option V) (o' od' : HO) (kvs' : List (PyData × V)) (G' : Hp) (zs : List V) (es : List En), σ = [some (.ref b), some (.ref l), some (.ref W), some (.ref q2), some (.ref R), y5, y6, y7, y8] ∧ Same G2 G' ∧ Bag G' o' ∧ Sep G' ((R, .lst zs) :: (b, o') :: (W, od') :: M) H' ∧ Paired (EnA K G') zs es ∧ (es.map En.pr).Sublist (ps2.take i) ∧ DD K w G' W od' kvs' ∧ Bf G' kvs' ∧ kvs'.length ≤ m + i) ⟨_, _, _, _, o2, od, kvs, G2, [], [], rfl, Same.refl _, B2, S3, .nil, List.nil_sublist _, dd.same s2, bf.same s2, kl⟩ (fun i σ H' _ h => ?_) (fun i x σ H' hx h => ?_) (fun σ H' h => ?_)⟩
    · obtain ⟨_, _, _, _, _, _, _, G', _, _, _, s', _, S', _⟩ := h
      exact SqL.of (S'.st (s' _ _ hq2))
    · obtain ⟨y5, y6, y7, y8, o', od', kvs', G4, zs, es, rfl, s4, B4, S4, hz, sub, dd4, bf4, kl4⟩ := h
      obtain ⟨pr, hpr, t, ow, rfl, ht, how, hok, lt⟩ := prd_get hps hx
      have il := (List.getElem?_eq_some_iff.mp hpr).1
      have zl := prd_len hz
      have el : es.length ≤ i := by
        have := sub.length_le
        rw [List.length_map, List.length_take] at this
        omega
      have sub1 : (es.map En.pr).Sublist (ps2.take (i + 1)) := by
        rw [take_snoc hpr]
        exact sub.trans (List.sublist_append_left _ _)
      refine ⟨G4, _, b, o', 6, rfl, S4.sw, B4, by decide, by decide, fun wy o5 H5 _ _ B5 S5 => ⟨fun _ => ?_, fun _ => ?_⟩⟩
      · have S5 := S5.sw
        -- told before, now at least
        refine ⟨fun σ H' => ∃ (o' od' : HO) (kvs' : List (PyData × V)) (G' : Hp) (v : V), σ = [some (.ref b), some (.ref l), some (.ref W), some (.ref q2), some (.ref R), some (.ref t), some (.int wy), y7, y8] ∧ Same G4 G' ∧ Bag G' o' ∧ Sep G' ((R, .lst zs) :: (b, o') :: (W, od') :: M) H' ∧ DD K w G' W od' kvs' ∧ Bf G' kvs' ∧ kvs'.length ≤ m + (i + 1) ∧ valV kvs' (kyD pr.1 pr.2) = some v ∧ (kvs'.any fun kv => decide (kv.1 = kyD pr.1 pr.2)) = true, ?_, fun σ H6 h => ?_⟩
        · have hT := s4 _ _ ht
          have kv := key_at (K := K) hT (dp_same s4 how) lt
          cases ev : valV kvs' (kyD pr.1 pr.2) with
          | some v =>
            refine ⟨W, t, od', kvs', _, rfl, rfl, Sep.here (A := [_, _]) S5, dd4.same S5.1, kv.same S5.1, false, by rw [ev]; rfl, (fun e => nomatch e), fun _ => ?_⟩
            exact ⟨o5, od', kvs', G4, v, rfl, Same.refl _, B5, S5, dd4, bf4, by omega, ev, by rw [valV_any, ev]; rfl⟩
          | none =>
            refine ⟨W, t, od', kvs', _, rfl, rfl, Sep.here (A := [_, _]) S5, dd4.same S5.1, kv.same S5.1, true, by rw [ev]; rfl, fun _ => ?_, (fun e => nomatch e)⟩
            refine ⟨G4, _, b, o5, 10, rfl, S5.sw, B5, by decide, by decide, fun v6 o6 H6 _ _ B6 S6 => ?_⟩
            refine ⟨G4, _, b, o6, 3, rfl, S6, B6, by decide, by decide, fun v7 o7 H7 _ _ B7 S7 => ⟨sz, fun sn nsn => ?_⟩⟩
            obtain ⟨G8, s8, S8, h8⟩ := Sep.mk (o := .tup [.int v7]) S7 nsn
            refine ⟨sz, fun t2 nt2 => ?_⟩
            obtain ⟨G9, s9, S9, h9⟩ := Sep.mk (o := .tup [.int v6, .ref sn]) S8 nt2
            have s49 := s8.trans s9
            refine ⟨G9, W, t, od', kvs', _, rfl, rfl, Sep.here (A := [_, _]) S9, S9.1, dd4.same s49, kv.same s49, smallL (by omega), fun o' d' => ?_⟩
            refine ⟨o7, o', _, G9, .ref t2, rfl, s49, B7.same s49, (Sep.setAt (A := [_, _]) S9).sw, d', (bf4.same s49).put _ h9 (ns := [v7]) (s9 _ _ h8) (show 1 ≤ 13 by decide), ?_, by rw [valV_put, if_pos rfl], ?_⟩
            · have := put_len kvs' (kyD pr.1 pr.2) (.ref t2)
              omega
            · rw [valV_any, valV_put, if_pos rfl]
              rfl
        obtain ⟨o6, od6, kvs6, G6, v6, rfl, s6, B6, S6, dd6, bf6, kl6, ev, ia⟩ := h
        have s26 := s4.trans s6
        have hT := s26 _ _ ht
        have kv := key_at (K := K) hT (dp_same s26 how) lt
        obtain ⟨t6, sn, n, ns, rfl, ht6, hsn, nl⟩ := bf6 _ _ ev
        refine ⟨W, t, od6, kvs6, _, _, rfl, rfl, Sep.here (A := [_, _]) S6, dd6.same S6.1, kv.same S6.1, ev, t6, _, rfl, S6.t (SqT.of ht6), rfl, _, _, rfl, _, _, rfl, rfl, ?_⟩
        -- another value
        refine ⟨fun σ H' => ∃ (o' : HO) (n : Int), σ = [some (.ref b), some (.ref l), some (.ref W), some (.ref q2), some (.ref R), some (.ref t), some (.int wy), some (.int n), some (.ref sn)] ∧ Bag G6 o' ∧ Sep G6 ((R, .lst zs) :: (b, o') :: (W, od6) :: M) H', ?_, fun σ H7 h => ?_⟩
        · refine ⟨fun _ => ⟨fun _ => ?v1, tt⟩, fun _ => ⟨fun _ => ?v2, fun _ => ⟨o6, n, rfl, B6, S6⟩⟩⟩
          case v1 | v2 => exact ⟨G6, _, b, o6, 10, rfl, S6.sw, B6, by decide, by decide, fun v7 o7 H7 _ _ B7 S7 => ⟨o7, v7, rfl, B7, S7.sw⟩⟩
        obtain ⟨o7, n7, rfl, B7, S7⟩ := h
        -- other values of its list
        refine ⟨fun σ H' => ∃ (o' : HO) (G' : Hp) (sn : Addr) (ns : List Int), σ = [some (.ref b), some (.ref l), some (.ref W), some (.ref q2), some (.ref R), some (.ref t), some (.int wy), some (.int n7), some (.ref sn)] ∧ Same G6 G' ∧ Bag G' o' ∧ Sep G' ((R, .lst zs) :: (b, o') :: (W, od6) :: M) H' ∧ G' sn = some (.tup (ns.map V.int)) ∧ ns.length ≤ 13, ?_, fun σ H8 h => ?_⟩
        · refine ⟨fun _ => ⟨fun _ => ?v1, tt⟩, fun _ => ⟨fun _ => ?v2, fun _ => ⟨o7, G6, sn, ns, rfl, Same.refl _, B7, S7, hsn, nl⟩⟩⟩
          case v1 | v2 => exact ⟨G6, _, b, sn, o7, ns, rfl, S7.sw, B7, hsn, nl, fun t8 ms o8 G8 H8 s8 h8 ml B8 S8 => ⟨o8, G8, t8, ms, rfl, s8, B8, S8.sw, h8, ml⟩⟩
        obtain ⟨o8, G8, sn8, ns8, rfl, s8, B8, S8, hsn8, nl8⟩ := h
        refine ⟨sz, fun t9 nt9 => ?_⟩
        obtain ⟨G9, s9, S9, h9⟩ := Sep.mk (o := .tup [.int n7, .ref sn8]) S8 nt9
        have s69 := s8.trans s9
        have s29 := s26.trans s69
        refine ⟨G9, W, t, od6, kvs6, _, rfl, rfl, Sep.here (A := [_, _]) S9, S9.1, dd6.same s69, kv.same s69, smallL (by omega), fun od9 d9 => ?_⟩
        have S10 := Sep.setAt (A := [_, _]) (o' := od9) S9
        have hTT := S10.t (SqT.of (K := K) (s29 _ _ ht))
        refine ⟨.inl ⟨rfl, _, SqL.of S10.hd⟩, _, ow, .inr hTT, at0, _, .str pr.2, .inr hTT, rfl, sz, fun t10 nt10 => ?_⟩
        obtain ⟨G11, s11, S11, h11⟩ := Sep.mk (o := .tup [ow, .str pr.2, .int n7, .ref sn8]) S10 nt10
        refine ⟨R, zs, _, rfl, rfl, S11.hd, smallL (by omega), ?_⟩
        have s911 := s9.trans s11
        have lenp : (putK kvs6 (kyD pr.1 pr.2) (V.ref t9)).length ≤ m + (i + 1) := by
          have : (putK kvs6 (kyD pr.1 pr.2) (V.ref t9)).length = kvs6.length := by
            unfold putK
            rw [if_pos ia, List.length_map]
          omega
        refine ⟨_, _, _, _, o8, od9, _, G11, zs ++ [.ref t10], es ++ [⟨pr.1, pr.2, n7, ns8⟩], rfl, s29.trans s11, (B8.same s9).same s11, S11.set, ?_, ?_, d9.same s11, ((bf6.same s69).put _ h9 (s9 _ _ hsn8) nl8).same s11, lenp⟩
        · exact prd_app (prd_sameE ((s6.trans s69).trans s11) hz) (.cons ⟨t10, ow, sn8, rfl, h11, dp_same (s29.trans s11) how, hok, lt, s911 _ _ hsn8⟩ .nil)
        · rw [take_snoc hpr, List.map_append]
          exact List.Sublist.append sub (List.Sublist.refl _)
      · exact ⟨_, _, _, _, o5, od', kvs', G4, zs, es, rfl, s4, B5, S5.sw, hz, sub1, dd4, bf4, by omega⟩
    · obtain ⟨y5, y6, y7, y8, o', od', kvs', G4, zs, es, rfl, s4, B4, S4, hz, sub, dd4, bf4, kl4⟩ := h
      rw [y2l, List.take_length] at sub
      have el := sub.length_le
      rw [List.length_map] at el
      exact q R zs es o' od' kvs' G4 _ (s2.trans s4) S4 hz (sub.nodup (pp.nodup_iff.mpr nd)) (by omega) B4 dd4 bf4 (by omega)

end
end K41
set_option Elab.async false
set_option linter.all false
set_option maxRecDepth 100000
set_option maxHeartbeats 4000000
namespace K41
open PySem PySem.Spec PyProof.Rows L2 XL
section
variable {P : Program} {w : World} {K : PySem.W.Frag} {mg : Str → Option Value} {base : Heap}
/-! ### free logs -/
theorem RwA.mk {K : PySem.W.Frag} {G : Hp} {t : Addr} {ow : V} {o : Own} {z : Str} {v : Int} (arm : Bool) (h : G t = some (.tup [.str (dwd arm), ow, .str z, .int v])) (how : Dp K G ow (owD o)) (hok : OwOk o) (lt : Lt 1 8 z) : RwA K G (.ref t) ⟨arm, o, z, v⟩ := ⟨t, ow, rfl, h, how, hok, lt⟩
def spFree (K : PySem.W.Frag) : Sp := fun vs H Q _ => ∃ (G : Hp) (M : List (Addr × HO)) (b l : Addr) (o : HO) (ys : List V) (ps : List Pr), vs = [.ref b, .ref l] ∧ Sep G ((b, o) :: M) H ∧ Bag G o ∧ SqL K G l ys ∧ Paired (PrA K G) ys ps ∧ 1 ≤ ps.length ∧ ps.length ≤ 36 ∧
  ∀ (D : Addr) (us : List V) (rs : List Rw) (o' : HO) (G' H' : Hp), Same G G' → Sep G' ((D, .lst us) :: (b, o') :: M) H' → Paired (RwA K G') us rs → rs.length ≤ 14 → Bag G' o' → Q (.ref D) H'
theorem ok_free (T : Top K mg w) {k : Nat} (G_pick : FnOk P w K mg base CX0 k T.a_pick T.d_pick ["_law_bag_here", "_law_many"] spPick) (G_walk : FnOk P w K mg base CX0 k T.a_walk T.d_walk ["_law_log"] (spWalk K)) : FnOk P w K mg base CX0 (k + 1) T.a_free T.d_free ["_law_bag_here", "_law_pairs_here"] (spFree K) := by
  refine T.F_free.ok sc_free (fun vs H Q E h => ?_) (fun cdv A outer s H vs Q E hr h => ?_)
  · obtain ⟨G, M, b, l, o, ys, ps, rfl, _⟩ := h
    rfl
  · obtain ⟨G, M, b, l, o, ys, ps, rfl, S, B, hl, hy, p1, p2, q⟩ := h
    refine ⟨_, (pss_cons (ps_set (i := 2) sc_free.nd rfl (.inl rfl) (pe_lst pa_nil))
      (pss_cons (ps_for PassesOwn.never rfl (pi_range1 (by rfl) T.m_range (pa_cons (pe_call G_pick (hr.mono (by omega)) (by rfl) T.g_pick T.F_pick.kp T.b_pick .nil pass0 (pa_cons (xv 0) (pa_cons pe_int pa_nil))) pa_nil)) (pg_name (i := 3) sc_free.nd rfl (.inl rfl))
      (pss_cons (ps_set (i := 4) sc_free.nd rfl (.inr rfl) (pe_ix (ix_k K) (xv 1) (pe_call G_pick (hr.mono (by omega)) (by rfl) T.g_pick T.F_pick.kp T.b_pick .nil pass0 (pa_cons (xv 0) (pa_cons (pe_callB (cr_lenK K) (by rfl) T.m_len (by decide +kernel) (pa_cons (xv 1) pa_nil)) pa_nil))) (fun _ _ => rfl)))
      (pss_cons (ps_setLc (i := 5) (own := [("_law_row", 6)]) (by rfl) sc_free.nd rfl rfl (sw_true rfl rfl rfl (by decide +kernel)) (pi_listK K (pe_ix (ix_k K) (pe_call G_walk (hr.mono (by omega)) (by rfl) T.g_walk T.F_walk.kp T.b_walk .nil pass0 (pa_cons (xv 2) pa_nil)) pe_int (fun _ _ => rfl))) (blkOk_by (N := ["_law_bag_here", "_law_pairs_here", "_law_log", "_law_step_here", "_law_pair", "_law_there", "_law_row"]) (sc := defScope s_free) (by decide +kernel)) (fun _ _ _ _ _ => (pg_name (i := 6) sc_free.nd rfl (.inl rfl))) (fun _ _ _ _ _ => (pts_one (PW.pt (xw_and (xt_cmp (op_eqLK K hr.u190) (pe_ix (ix_k K) (xv 6) pe_int (fun _ _ => rfl)) (pe_ix (ix_k K) (xv 4) pe_int (fun _ _ => rfl)) (nomark _)) (pw_and1 (xt_cmp (op_eqLK K hr.u190) (pe_ix (ix_k K) (xv 6) pe_int (fun _ _ => rfl)) (pe_ix (ix_k K) (xv 4) pe_int (fun _ _ => rfl)) (nomark _))))))) (fun _ _ _ _ _ => (xv 6)))
      (pss_one (xs_if (xt_cmp (op_eqLK K hr.u190) (xv 5) (pe_lst pa_nil) (nomark _))
      (pss_one (ps_expr (pe_bmK K PySem.F.plainAttrs_list PySem.F.slot_list_append PySem.F.type_list_append mt_append (xv 2) (pa_cons (pe_tup (pa_cons pe_str (pa_cons (pe_ix (ix_k K) (xv 4) pe_int (fun _ _ => rfl)) (pa_cons (pe_ix (ix_k K) (xv 4) pe_int (fun _ _ => rfl)) (pa_cons (pe_call G_pick (hr.mono (by omega)) (by rfl) T.g_pick T.F_pick.kp T.b_pick .nil pass0 (pa_cons (xv 0) (pa_cons pe_int pa_nil))) pa_nil))))) pa_nil))))
      (pss_one (ps_expr (pe_bmK K PySem.F.plainAttrs_list PySem.F.slot_list_append PySem.F.type_list_append mt_append (xv 2) (pa_cons (pe_tup (pa_cons pe_str (pa_cons (pe_ix (ix_k K) (xv 4) pe_int (fun _ _ => rfl)) (pa_cons (pe_ix (ix_k K) (xv 4) pe_int (fun _ _ => rfl)) (pa_cons (pe_ix (ix_k K) (pe_ix (ix_k K) (xv 5) pe_int (fun _ _ => rfl)) pe_int (fun _ _ => rfl)) pa_nil))))) pa_nil)))))))))
      (pss_one (ps_ret (xv 2))))), ?_⟩
    have yl := prd_len hy
    refine ⟨sz, fun D nD => ?_⟩
    have S1 := S.new (o := .lst []) nD
    refine ⟨G, _, b, o, 15, rfl, S1.sw, B, by decide, by decide, fun r1 o1 H1 r10 r11 B1 S2 => ⟨r1, rfl, by omega, by omega, for_range (lo := 0) (n := r1.toNat) (fun i σ H' => ∃ (y3 y4 y5 y6 : Option V) (o' : HO) (G' : Hp) (us : List V) (rs : List Rw), σ = [some (.ref b), some (.ref l), some (.ref D), y3, y4, y5, y6] ∧ Same G G' ∧ Bag G' o' ∧ Sep G' ((D, .lst us) :: (b, o') :: M) H' ∧ Paired (RwA K G') us rs ∧ rs.length = i) ⟨_, _, _, _, o1, G, [], [], rfl, Same.refl _, B1, S2.sw, .nil, rfl⟩ (fun i σ H' hi h => ?_) (fun σ H' h => ?_)⟩⟩
    · obtain ⟨y3, y4, y5, y6, o', G2, us, rs, rfl, s2, B2, S3, hu, rl⟩ := h
      have ul := prd_len hu
      refine ⟨_, .inl (S3.l (same_l s2 hl)), G2, _, b, o', _, rfl, S3.sw, B2, by omega, by omega, fun r3 o3 H3 r30 r31 B3 S4 => ?_⟩
      have S4 := S4.sw
      obtain ⟨v4, hv4, _⟩ := atI_in r30 r31
      obtain ⟨pr, hpr, t, ow, rfl, ht, how, hok, lt⟩ := prd_get hy (atN r30 hv4)
      obtain ⟨wa, rfl⟩ := ow_ref how
      refine ⟨_, _, .inl (S4.l (same_l s2 hl)), hv4, ?_⟩
      refine ⟨G2, _, D, us, rs, rfl, S4, (fun G' H' _ S => SqL.of S.hd), hu, by omega, fun a ha t5 D5 ds G5 H5 s5 ht5 hD5 hd S5 => ?f1, fun pre r a bb bd t5 D5 ds G5 H5 s5 ht5 hD5 hd S5 => ?f2⟩
      case f1 | f2 =>
        have s25 := s2.trans s5
        have hT := SqT.of (K := K) (s25 _ _ ht)
        have how5 := dp_same s25 how
        have hu5 := prd_sameR s5 hu
        have al : a.length ≤ 50000 := by
          first
            | (have := snd_len ha; omega)
            | (have h1 := snd_len bd.ar; obtain ⟨post, e⟩ := bd.at'; have h2 := congrArg List.length e; rw [List.length_append] at h2; omega)
        have dl := prd_len hd
        refine ⟨_, .ref D5, .inr (S5.t (SqT.of ht5)), rfl, D5, rfl, ⟨_, SqL.of (S5.st hD5)⟩, fun R nR => lc_list (xs := ds) (fun i H' => ∃ (ts : List V) (as : List Ar), Paired (ArA K G5) ts as ∧ ts.length ≤ i ∧ Sep G5 ((R, .lst ts) :: (D, .lst us) :: (b, o3) :: M) H') ⟨[], [], .nil, Nat.le_refl _, S5.new nR⟩ (fun i H' _ h => ?_) (fun i x H' hx h => ⟨rfl, ?_⟩) (fun H' h => ?_)⟩
        · obtain ⟨_, _, _, _, S'⟩ := h
          exact SqL.of (S'.st hD5)
        · obtain ⟨ts, as, hts, tl, S6⟩ := h
          obtain ⟨y, hy0, t0, ow0, rfl, ht0, how0, lt0⟩ := prd_get hd hx
          obtain ⟨w0, rfl⟩ := how0.ref
          have iy := (List.getElem?_eq_some_iff.mp hy0).1
          have hT0 := SqT.of (K := K) ht0
          have no : ∃ (ts : List V) (as : List Ar), Paired (ArA K G5) ts as ∧ ts.length ≤ i + 1 ∧ Sep G5 ((R, .lst ts) :: (D, .lst us) :: (b, o3) :: M) H' := ⟨ts, as, hts, Nat.le_succ_of_le tl, S6⟩
          obtain ⟨d, d', g1, g2, g3, g4, g5, g6⟩ := nv_dat (m := 7) (by decide) (how0.same S6.1) ((OwV.of how5).same S6.1)
          refine ⟨_, _, .inr (S6.t hT0), at0, _, _, .inr (S6.t hT), at0, d, d', g1, g2, g3, g4, g5, fun e1 => ?_, fun e1 => ?_⟩
          · refine ⟨_, .str y.2.1, .inr (S6.t hT0), rfl, _, .str pr.2, .inr (S6.t hT), rfl, ?_⟩
            refine tst (fun e => ?_) (fun e => no)
            exact ⟨_, S6.hd, smallL (by omega), ts ++ [.ref t0], as ++ [y], prd_app hts (.cons ⟨t0, _, rfl, ht0, how0, lt0⟩ .nil), by rw [List.length_append]; show ts.length + 1 ≤ i + 1; omega, S6.set⟩
          · exact tst (fun e => nomatch e) (fun _ => no)
        · obtain ⟨ts, as, hts, tl, S6⟩ := h
          refine ⟨sz, fun Z nZ => ?_⟩
          have S7 := S6.new (o := .lst []) nZ
          obtain ⟨d, d', g1, g2, g3, g4, g5, g6⟩ := nl_dat (m := 10) (by decide) (SqL.of (K := K) S7.sw.hd) (SqL.of (K := K) S7.hd) (prd_nv (prd_same S7.1 hts)) (.nil : Paired (NV K 10 _) [] [])
          refine ⟨d, d', g1, g2, g3, g4, g5, fun e1 => ?_, fun e1 => ?_⟩
          · have S8 := S7.drop.drop
            refine ⟨.inl ⟨rfl, _, SqL.of S8.hd⟩, _, .ref wa, .inr (S8.t hT), at0, _, .str pr.2, .inr (S8.t hT), rfl, G5, _, b, o3, 10, rfl, S8.sw, B3.same s5, by decide, by decide, fun r9 o9 H9 _ _ B9 S9 => ⟨sz, fun t9 n9 => ?_⟩⟩
            obtain ⟨G10, s10, S10, h10⟩ := Sep.mk (o := .tup [.str "arm", .ref wa, .str pr.2, .int r9]) S9.sw n9
            refine ⟨D, us, _, rfl, rfl, S10.hd, smallL (by omega), ?_⟩
            exact ⟨_, _, _, _, o9, G10, us ++ [.ref t9], rs ++ [⟨true, pr.1, pr.2, r9⟩], rfl, s25.trans s10, B9.same s10, S10.set, prd_app (prd_sameR s10 hu5) (.cons (RwA.mk true h10 (dp_same s10 how5) hok lt) .nil), by rw [List.length_append, rl]; rfl⟩
          · rw [g6] at e1
            have ne : as ≠ [] := fun e => of_decide_eq_false e1 (by rw [e]; rfl)
            rcases as with _ | ⟨x, ar⟩
            · exact absurd rfl ne
            match ts, hts with
            | u0 :: tr, .cons hx _ =>
              obtain ⟨t0, ow0, rfl, ht0, how0, lt0⟩ := hx
              have S8 := S7.drop
              have S9 := S8.sw
              refine ⟨.inl ⟨rfl, _, SqL.of S9.hd⟩, _, .ref wa, .inr (S8.t hT), at0, _, .str pr.2, .inr (S8.t hT), rfl, _, _, .inl (SqL.of S8.hd), at0, _, .int x.2.2, .inr (S8.t (SqT.of ht0)), rfl, sz, fun t9 n9 => ?_⟩
              obtain ⟨G10, s10, S10, h10⟩ := Sep.mk (o := .tup [.str "clean", .ref wa, .str pr.2, .int x.2.2]) S8.drop n9
              refine ⟨D, us, _, rfl, rfl, S10.hd, smallL (by omega), ?_⟩
              exact ⟨_, _, _, _, o3, G10, us ++ [.ref t9], rs ++ [⟨false, pr.1, pr.2, x.2.2⟩], rfl, s25.trans s10, (B3.same s5).same s10, S10.set, prd_app (prd_sameR s10 hu5) (.cons (RwA.mk false h10 (dp_same s10 how5) hok lt) .nil), by rw [List.length_append, rl]; rfl⟩
    · obtain ⟨y3, y4, y5, y6, o', G2, us, rs, rfl, s2, B2, S3, hu, rl⟩ := h
      exact q D us rs o' G2 _ s2 S3 hu (by omega) B2

end
end K41
set_option Elab.async false
set_option linter.all false
set_option maxRecDepth 100000
set_option maxHeartbeats 4000000
namespace K41
open PySem PySem.Spec PyProof.Rows L2 XL
section
variable {P : Program} {w : World} {K : PySem.W.Frag} {mg : Str → Option Value} {base : Heap}
/-! ### a changed log -/
theorem prd_drop {α β : Type} {F : α → β → Prop} : ∀ {xs : List α} {ys : List β} (n : Nat), Paired F xs ys → Paired F (xs.drop n) (ys.drop n)
  | _, _, 0, h => h
  | _, _, _ + 1, .nil => .nil
  | _, _, n + 1, .cons _ t => prd_drop n t
theorem prd_ins {α β : Type} {F : α → β → Prop} {xs : List α} {ys : List β} {x : α} {y : β} (n : Nat) (h : Paired F xs ys) (r : F x y) : Paired F (xs.take n ++ [x] ++ xs.drop n) (ys.take n ++ [y] ++ ys.drop n) := prd_app (prd_app (prd_take n h) (.cons r .nil)) (prd_drop n h)
theorem prd_erase {α β : Type} {F : α → β → Prop} : ∀ {xs : List α} {ys : List β} (n : Nat), Paired F xs ys → Paired F (xs.eraseIdx n) (ys.eraseIdx n)
  | _, _, _, .nil => .nil
  | _, _, 0, .cons _ t => t
  | _, _, n + 1, .cons r t => .cons r (prd_erase n t)
theorem prd_setP {α β : Type} {F : α → β → Prop} {x : α} {y : β} (q : F x y) : ∀ {xs : List α} {ys : List β} (n : Nat), Paired F xs ys → Paired F (xs.set n x) (ys.set n y)
  | _, _, _, .nil => .nil
  | _, _, 0, .cons _ t => .cons q t
  | _, _, n + 1, .cons r t => .cons r (prd_setP q n t)
theorem ins_len {α : Type} {xs : List α} {x : α} {n : Nat} : (xs.take n ++ [x] ++ xs.drop n).length = xs.length + 1 := by
  rw [List.length_append, List.length_append, List.length_take, List.length_drop]
  show min n xs.length + 1 + (xs.length - n) = _
  omega
def spChanged (K : PySem.W.Frag) : Sp := fun vs H Q _ => ∃ (G : Hp) (M : List (Addr × HO)) (b L l : Addr) (o : HO) (us ys : List V) (rs : List Rw) (ps : List Pr), vs = [.ref b, .ref L, .ref l] ∧ Sep G ((b, o) :: M) H ∧ Bag G o ∧ SqL K G L us ∧ Paired (RwA K G) us rs ∧ rs.length ≤ 10000 ∧ SqL K G l ys ∧ Paired (PrA K G) ys ps ∧ 1 ≤ ps.length ∧ ps.length ≤ 36 ∧
  ∀ (D : Addr) (us' : List V) (rs' : List Rw) (o' : HO) (G' H' : Hp), Same G G' → Sep G' ((D, .lst us') :: (b, o') :: M) H' → Paired (RwA K G') us' rs' → rs'.length ≤ rs.length + 3 → Bag G' o' → Q (.ref D) H'
theorem ok_changed (T : Top K mg w) {k : Nat} (G_pick : FnOk P w K mg base CX0 k T.a_pick T.d_pick ["_law_bag_here", "_law_many"] spPick) : FnOk P w K mg base CX0 (k + 1) T.a_changed T.d_changed ["_law_bag_here", "_law_log", "_law_pairs_here"] (spChanged K) := by
  refine T.F_changed.ok sc_changed (fun vs H Q E h => ?_) (fun cdv A outer s H vs Q E hr h => ?_)
  · obtain ⟨G, M, b, L, l, o, us, ys, rs, ps, rfl, _⟩ := h
    rfl
  · obtain ⟨G, M, b, L, l, o, us0, ys, rs0, ps, rfl, S, B, hL, hu0, rl0, hl, hy, p1, p2, q⟩ := h
    refine ⟨_, (pss_cons (ps_set (i := 3) sc_changed.nd rfl (.inl rfl) (pe_callTy (call_listK K) (by rfl) T.m_list (by decide +kernel) (pa_cons (xv 1) pa_nil)))
      (pss_cons (ps_for PassesOwn.never rfl (pi_range1 (by rfl) T.m_range (pa_cons (pe_op op_addY pe_int (pe_call G_pick (hr.mono (by omega)) (by rfl) T.g_pick T.F_pick.kp T.b_pick .nil pass0 (pa_cons (xv 0) (pa_cons pe_int pa_nil)))) pa_nil)) (pg_name (i := 4) sc_changed.nd rfl (.inl rfl))
      (pss_cons (ps_set (i := 5) sc_changed.nd rfl (.inl rfl) (pe_call G_pick (hr.mono (by omega)) (by rfl) T.g_pick T.F_pick.kp T.b_pick .nil pass0 (pa_cons (xv 0) (pa_cons (pe_op op_addY (pe_callB (cr_lenK K) (by rfl) T.m_len (by decide +kernel) (pa_cons (xv 3) pa_nil)) pe_int) pa_nil))))
      (pss_cons (ps_set (i := 6) sc_changed.nd rfl (.inl rfl) (pe_call G_pick (hr.mono (by omega)) (by rfl) T.g_pick T.F_pick.kp T.b_pick .nil pass0 (pa_cons (xv 0) (pa_cons pe_int pa_nil))))
      (pss_cons (ps_set (i := 7) sc_changed.nd rfl (.inl rfl) (pe_ix (ix_k K) (xv 2) (pe_call G_pick (hr.mono (by omega)) (by rfl) T.g_pick T.F_pick.kp T.b_pick .nil pass0 (pa_cons (xv 0) (pa_cons (pe_callB (cr_lenK K) (by rfl) T.m_len (by decide +kernel) (pa_cons (xv 2) pa_nil)) pa_nil))) (fun _ _ => rfl)))
      (pss_one (xs_if (PW.pt (xw_or (xt_cmp (op_eqLK K hr.u190) (xv 6) pe_int (nomark _)) (pw_or1 (xt_cmp (op_eqLK K hr.u190) (xv 5) (pe_callB (cr_lenK K) (by rfl) T.m_len (by decide +kernel) (pa_cons (xv 3) pa_nil)) (nomark _)))))
      (pss_one (ps_expr (pe_bmK K PySem.F.plainAttrs_list PySem.F.slot_list_insert PySem.F.type_list_insert mt_insert (xv 3) (pa_cons (xv 5) (pa_cons (pe_tup (pa_cons (pe_ix (ix_k K) (pe_lst (pa_cons pe_str (pa_cons pe_str pa_nil))) (pe_call G_pick (hr.mono (by omega)) (by rfl) T.g_pick T.F_pick.kp T.b_pick .nil pass0 (pa_cons (xv 0) (pa_cons pe_int pa_nil))) (fun _ _ => rfl)) (pa_cons (pe_ix (ix_k K) (xv 7) pe_int (fun _ _ => rfl)) (pa_cons (pe_ix (ix_k K) (xv 7) pe_int (fun _ _ => rfl)) (pa_cons (pe_call G_pick (hr.mono (by omega)) (by rfl) T.g_pick T.F_pick.kp T.b_pick .nil pass0 (pa_cons (xv 0) (pa_cons pe_int pa_nil))) pa_nil))))) pa_nil)))))
      (pss_one (xs_if (xt_cmp (op_eqLK K hr.u190) (xv 6) pe_int (nomark _))
      (pss_one (ps_expr (pe_bmK K PySem.F.plainAttrs_list PySem.F.slot_list_pop PySem.F.type_list_pop mt_popAt (xv 3) (pa_cons (xv 5) pa_nil))))
      (pss_one (xs_if (xt_cmp (op_eqLK K hr.u190) (xv 6) pe_int (nomark _))
      (pss_one (ps_expr (pe_bmK K PySem.F.plainAttrs_list PySem.F.slot_list_insert PySem.F.type_list_insert mt_insert (xv 3) (pa_cons (pe_call G_pick (hr.mono (by omega)) (by rfl) T.g_pick T.F_pick.kp T.b_pick .nil pass0 (pa_cons (xv 0) (pa_cons (pe_op op_addY (pe_callB (cr_lenK K) (by rfl) T.m_len (by decide +kernel) (pa_cons (xv 3) pa_nil)) pe_int) pa_nil))) (pa_cons (pe_ix (ix_k K) (xv 3) (xv 5) (fun _ _ => rfl)) pa_nil)))))
      (pss_one (xs_if (xt_cmp (op_eqLK K hr.u190) (xv 6) pe_int (nomark _))
      (pss_cons (ps_set (i := 8) sc_changed.nd rfl (.inl rfl) (pe_ix (ix_k K) (xv 3) (xv 5) (fun _ _ => rfl)))
      (pss_one (ps_asg (pe_tup (pa_cons (pe_ix (ix_k K) (xv 8) pe_int (fun _ _ => rfl)) (pa_cons (pe_ix (ix_k K) (xv 8) pe_int (fun _ _ => rfl)) (pa_cons (pe_ix (ix_k K) (xv 8) pe_int (fun _ _ => rfl)) (pa_cons (pe_op op_modY (pe_callTy cr_int (by rfl) T.m_int (by decide +kernel) (pa_cons (pe_op op_addY (pe_op op_addY (pe_ix (ix_k K) (xv 8) pe_int (fun _ _ => rfl)) pe_int) (pe_call G_pick (hr.mono (by omega)) (by rfl) T.g_pick T.F_pick.kp T.b_pick .nil pass0 (pa_cons (xv 0) (pa_cons pe_int pa_nil)))) pa_nil)) pe_int) pa_nil))))) (pg_sub (xv 3) (xv 5) set_list))))
      (pss_one (xs_if (xt_cmp (op_eqLK K hr.u190) (xv 6) pe_int (nomark _))
      (pss_one (ps_asg (pe_tup (pa_cons (pe_ix (ix_k K) (pe_ix (ix_k K) (xv 3) (xv 5) (fun _ _ => rfl)) pe_int (fun _ _ => rfl)) (pa_cons (pe_ix (ix_k K) (xv 7) pe_int (fun _ _ => rfl)) (pa_cons (pe_ix (ix_k K) (xv 7) pe_int (fun _ _ => rfl)) (pa_cons (pe_ix (ix_k K) (pe_ix (ix_k K) (xv 3) (xv 5) (fun _ _ => rfl)) pe_int (fun _ _ => rfl)) pa_nil))))) (pg_sub (xv 3) (xv 5) set_list)))
      (pss_one (xs_if (xt_cmp (op_eqLK K hr.u190) (xv 6) pe_int (nomark _))
      (pss_one (ps_asg (pe_tup (pa_cons (pe_dget (hu_of hr) (pe_disp (pps_cons pe_str pe_str (pps_cons pe_str pe_str pps_nil)) (by rfl) (by rfl) (fun z => by cases z) (by decide)) (pe_ix (ix_k K) (pe_ix (ix_k K) (xv 3) (xv 5) (fun _ _ => rfl)) pe_int (fun _ _ => rfl)) (fun _ _ => rfl)) (pa_cons (pe_ix (ix_k K) (pe_ix (ix_k K) (xv 3) (xv 5) (fun _ _ => rfl)) pe_int (fun _ _ => rfl)) (pa_cons (pe_ix (ix_k K) (pe_ix (ix_k K) (xv 3) (xv 5) (fun _ _ => rfl)) pe_int (fun _ _ => rfl)) (pa_cons (pe_ix (ix_k K) (pe_ix (ix_k K) (xv 3) (xv 5) (fun _ _ => rfl)) pe_int (fun _ _ => rfl)) pa_nil))))) (pg_sub (xv 3) (xv 5) set_list)))
      (pss_cons (ps_set (i := 8) sc_changed.nd rfl (.inl rfl) (pe_bmK K PySem.F.plainAttrs_list PySem.F.slot_list_pop PySem.F.type_list_pop mt_popAt (xv 3) (pa_cons (xv 5) pa_nil)))
      (pss_one (ps_expr (pe_bmK K PySem.F.plainAttrs_list PySem.F.slot_list_insert PySem.F.type_list_insert mt_insert (xv 3) (pa_cons (pe_call G_pick (hr.mono (by omega)) (by rfl) T.g_pick T.F_pick.kp T.b_pick .nil pass0 (pa_cons (xv 0) (pa_cons (pe_op op_addY (pe_callB (cr_lenK K) (by rfl) T.m_len (by decide +kernel) (pa_cons (xv 3) pa_nil)) pe_int) pa_nil))) (pa_cons (xv 8) pa_nil))))))))))))))))))))))
      (pss_one (ps_ret (xv 3))))), ?_⟩
    have yl := prd_len hy
    have ul0 := prd_len hu0
    refine ⟨L, us0, rfl, .inl (S.l hL), fun D nD => ?_⟩
    have S1 := S.new (o := .lst us0) nD
    refine ⟨G, _, b, o, 3, rfl, S1.sw, B, by decide, by decide, fun r1 o1 H1 r10 r11 B1 S2 => ⟨_, rfl, by omega, by omega, for_range (lo := 0) (n := (1 + r1).toNat) (fun i σ H' => ∃ (y4 y5 y6 y7 y8 : Option V) (o' : HO) (G' : Hp) (us : List V) (rs : List Rw), σ = [some (.ref b), some (.ref L), some (.ref l), some (.ref D), y4, y5, y6, y7, y8] ∧ Same G G' ∧ Bag G' o' ∧ Sep G' ((D, .lst us) :: (b, o') :: M) H' ∧ Paired (RwA K G') us rs ∧ rs.length ≤ rs0.length + i) ⟨_, _, _, _, _, o1, G, us0, rs0, rfl, Same.refl _, B1, S2.sw, hu0, Nat.le_refl _⟩ (fun i σ H' hi h => ?_) (fun σ H' h => ?_)⟩⟩
    · obtain ⟨y4, y5, y6, y7, y8, o', G2, us, rs, rfl, s2, B2, S3, hu, rl⟩ := h
      have ul := prd_len hu
      have i3 : i < 3 := by omega
      refine ⟨_, .inl (SqL.of S3.hd), G2, _, b, o', _, rfl, S3.sw, B2, by omega, by omega, fun at' o3 H3 a0 a1 B3 S4 => ?_⟩
      refine ⟨G2, _, b, o3, 7, rfl, S4, B3, by decide, by decide, fun wy o4 H4 _ _ B4 S5 => ?_⟩
      refine ⟨_, .inl (S5.l (same_l s2 hl)), G2, _, b, o4, _, rfl, S5, B4, by omega, by omega, fun r5 o5 H5 r50 r51 B5 S6 => ?_⟩
      have S6 := S6.sw
      obtain ⟨v6, hv6, _⟩ := atI_in r50 r51
      obtain ⟨pr, hpr, t, ow, rfl, ht, how, hok, lt⟩ := prd_get hy (atN r50 hv6)
      have how2 := dp_same s2 how
      have hT := SqT.of (K := K) (s2 _ _ ht)
      refine ⟨_, _, .inl (S6.l (same_l s2 hl)), hv6, ?_⟩
      have fin : ∀ (us' : List V) (rs' : List Rw) (o' : HO) (G' H' : Hp) (y4 y5 y6 y7 y8 : Option V), Same G2 G' → Bag G' o' → Sep G' ((D, .lst us') :: (b, o') :: M) H' → Paired (RwA K G') us' rs' → rs'.length ≤ rs.length + 1 → ∃ (y4' y5' y6' y7' y8' : Option V) (o' : HO) (G' : Hp) (us : List V) (rs : List Rw), ([some (.ref b), some (.ref L), some (.ref l), some (.ref D), y4, y5, y6, y7, y8] : L2.St) = [some (.ref b), some (.ref L), some (.ref l), some (.ref D), y4', y5', y6', y7', y8'] ∧ Same G G' ∧ Bag G' o' ∧ Sep G' ((D, .lst us) :: (b, o') :: M) H' ∧ Paired (RwA K G') us rs ∧ rs.length ≤ rs0.length + (i + 1) :=
        fun us' rs' o' G' H' y4 y5 y6 y7 y8 s' B' S' h' l' => ⟨_, _, _, _, _, o', G', us', rs', rfl, s2.trans s', B', S', h', by omega⟩
      -- a row more
      have less : ∀ {z : Int}, decide (z = ((us.length : Nat) : Int)) = false → ¬ z = ((us.length : Nat) : Int) := fun e => of_decide_eq_false e
      refine ⟨fun _ => ⟨fun _ => ?w1, tt⟩, fun _ => ⟨_, .inl (SqL.of S6.hd), fun _ => ?w2, fun ne => ?_⟩⟩
      case w1 | w2 =>
        refine ⟨.inl ⟨rfl, _, SqL.of S6.hd⟩, sz, fun Z nZ => ?_⟩
        have S7 := S6.new (o := .lst [.str "arm", .str "clean"]) nZ
        refine ⟨G2, (Z, .lst [.str "arm", .str "clean"]) :: (D, .lst us) :: M, b, o5, 2, rfl, S7.perm ((List.Perm.cons _ (List.Perm.swap _ _ _)).trans (List.Perm.swap _ _ _)), B5, by decide, by decide, fun r8 o8 H8 r80 r81 B8 S8 => ?_⟩
        obtain ⟨arm, harm⟩ : ∃ arm, atI [V.str "arm", .str "clean"] r8 = some (.str (dwd arm)) := by
          have : r8 = 0 ∨ r8 = 1 := by omega
          rcases this with e | e
          · subst e; exact ⟨true, rfl⟩
          · subst e; exact ⟨false, rfl⟩
        have hT8 := S8.t hT
        refine ⟨_, _, .inl (SqL.of S8.sw.hd), harm, _, ow, .inr hT8, at0, _, .str pr.2, .inr hT8, rfl, G2, _, b, o8, 10, rfl, S8, B8, by decide, by decide, fun v9 o9 H9 _ _ B9 S9 => ⟨sz, fun t9 n9 => ?_⟩⟩
        obtain ⟨G10, s10, S10, h10⟩ := Sep.mk (o := .tup [.str (dwd arm), ow, .str pr.2, .int v9]) S9 n9
        have S11 := (S10.perm ((List.Perm.swap _ _ _).trans ((List.Perm.cons _ (List.Perm.swap _ _ _)).trans (List.Perm.swap _ _ _)))).perm (List.Perm.cons _ (List.Perm.swap _ _ _))
        have S12 : Sep G10 ((D, .lst us) :: (b, o9) :: M) _ := (S10.sw.drop).sw
        refine ⟨D, us, at', _, rfl, rfl, S12.hd, smallL (by omega), a0, by omega, ?_⟩
        exact fin _ _ o9 G10 _ _ _ _ _ _ s10 (B9.same s10) S12.set (prd_ins at'.toNat (prd_sameR s10 hu) (RwA.mk arm h10 (dp_same s10 how2) hok lt)) (by rw [ins_len]; exact Nat.le_refl _)
      have a2 : at' < us.length := by
        have := less ne
        omega
      obtain ⟨va, hva, _⟩ := atI_in a0 a2
      have hvn := atN a0 hva
      obtain ⟨rw1, hrw, t1, ow1, rfl, ht1, how1, hok1, lt1⟩ := prd_get hu hvn
      have hT1 := SqT.of (K := K) ht1
      have rwA : RwA K G2 (.ref t1) rw1 := ⟨t1, ow1, rfl, ht1, how1, hok1, lt1⟩
      have al : at'.toNat < us.length := by omega
      have el : (us.eraseIdx at'.toNat).length = us.length - 1 := List.length_eraseIdx_of_lt al
      have erl : (rs.eraseIdx at'.toNat).length ≤ rs.length := List.length_eraseIdx_le ..
      refine ⟨fun _ => ?_, fun _ => ⟨fun _ => ?_, fun _ => ⟨fun _ => ?_, fun _ => ⟨fun _ => ?_, fun _ => ⟨fun _ => ?_, fun _ => ?_⟩⟩⟩⟩⟩
      · -- a row less
        refine ⟨.inl ⟨rfl, _, SqL.of S6.hd⟩, D, us, at', at'.toNat, _, rfl, rfl, S6.hd, by omega, by omega, seqIdx a0 a2, hvn, ?_⟩
        exact fin _ _ o5 G2 _ _ _ _ _ _ (Same.refl _) B5 S6.set (prd_erase _ hu) (Nat.le_succ_of_le erl)
      · -- a row twice
        refine ⟨.inl ⟨rfl, _, SqL.of S6.hd⟩, _, .inl (SqL.of S6.hd), G2, _, b, o5, _, rfl, S6.sw, B5, by omega, by omega, fun r8 o8 H8 r80 r81 B8 S8 => ?_⟩
        have S8 := S8.sw
        refine ⟨_, _, .inl (SqL.of S8.hd), hva, D, us, r8, _, rfl, rfl, S8.hd, smallL (by omega), r80, by omega, ?_⟩
        exact fin _ _ o8 G2 _ _ _ _ _ _ (Same.refl _) B8 S8.set (prd_ins _ hu rwA) (by rw [ins_len]; exact Nat.le_refl _)
      · -- another value
        refine ⟨_, _, .inl (SqL.of S6.hd), hva, ?_⟩
        have hT6 := S6.t hT1
        refine ⟨_, .str (dwd rw1.arm), .inr hT6, at0, _, ow1, .inr hT6, rfl, _, .str rw1.wd, .inr hT6, rfl, _, .int rw1.val, .inr hT6, rfl, G2, _, b, o5, 9, rfl, S6.sw, B5, by decide, by decide, fun r8 o8 H8 _ _ B8 S8 => ?_⟩
        have S8 := S8.sw
        refine ⟨by decide, fun r9 _ _ _ => ⟨sz, fun t9 n9 => ?_⟩⟩
        obtain ⟨G10, s10, S10, h10⟩ := Sep.mk (o := .tup [.str (dwd rw1.arm), ow1, .str rw1.wd, .int r9]) S8 n9
        refine ⟨D, us, at', at'.toNat, rfl, rfl, S10.hd, ixN_ok a0 a2, ?_⟩
        exact fin _ _ o8 G10 _ _ _ _ _ _ s10 (B8.same s10) S10.set (prd_setP (RwA.mk rw1.arm h10 (dp_same s10 how1) hok1 lt1) _ (prd_sameR s10 hu)) (by rw [List.length_set]; exact Nat.le_succ _)
      · -- another pair
        have hT6 := S6.t hT1
        have hTp := S6.t hT
        refine ⟨_, _, .inl (SqL.of S6.hd), hva, _, .str (dwd rw1.arm), .inr hT6, at0, _, ow, .inr hTp, at0, _, .str pr.2, .inr hTp, rfl, _, _, .inl (SqL.of S6.hd), hva, _, .int rw1.val, .inr hT6, rfl, sz, fun t9 n9 => ?_⟩
        obtain ⟨G10, s10, S10, h10⟩ := Sep.mk (o := .tup [.str (dwd rw1.arm), ow, .str pr.2, .int rw1.val]) S6 n9
        refine ⟨D, us, at', at'.toNat, rfl, rfl, S10.hd, ixN_ok a0 a2, ?_⟩
        exact fin _ _ o5 G10 _ _ _ _ _ _ s10 (B5.same s10) S10.set (prd_setP (RwA.mk rw1.arm h10 (dp_same s10 how2) hok lt) _ (prd_sameR s10 hu)) (by rw [List.length_set]; exact Nat.le_succ _)
      · -- the other deed
        refine fun Z nZ => ?_
        have X1 := S6.new (o := .dK []) nZ
        refine ⟨X1.hd, [(.inr "arm", .str "clean"), (.inr "clean", .str "arm")], rfl, by decide, ?_⟩
        have X2 := X1.set (o' := .dK (mergeK [] [(Sum.inr "arm", .str "clean"), (Sum.inr "clean", .str "arm")]))
        have ev : valV (mergeK [] [((Sum.inr "arm" : Key), V.str "clean"), (Sum.inr "clean", .str "arm")]) (Sum.inr (dwd rw1.arm)) = some (.str (dwd (!rw1.arm))) := by cases rw1.arm <;> rfl
        have hT6 := X2.t hT1
        have dg := DGet.k (k := Sum.inr (dwd rw1.arm)) X2.hd
        rw [ev] at dg
        refine ⟨_, _, .inl (SqL.of X2.sw.hd), hva, _, .str (dwd rw1.arm), .inr hT6, at0, Z, .str (dwd (!rw1.arm)), rfl, dg, ?_⟩
        have X3 := X2.drop
        refine ⟨_, _, .inl (SqL.of X3.hd), hva, _, ow1, .inr hT6, rfl, _, _, .inl (SqL.of X3.hd), hva, _, .str rw1.wd, .inr hT6, rfl, _, _, .inl (SqL.of X3.hd), hva, _, .int rw1.val, .inr hT6, rfl, sz, fun t9 n9 => ?_⟩
        obtain ⟨G10, s10, S10, h10⟩ := Sep.mk (o := .tup [.str (dwd (!rw1.arm)), ow1, .str rw1.wd, .int rw1.val]) X3 n9
        refine ⟨D, us, at', at'.toNat, rfl, rfl, S10.hd, ixN_ok a0 a2, ?_⟩
        exact fin _ _ o5 G10 _ _ _ _ _ _ s10 (B5.same s10) S10.set (prd_setP (RwA.mk (!rw1.arm) h10 (dp_same s10 how1) hok1 lt1) _ (prd_sameR s10 hu)) (by rw [List.length_set]; exact Nat.le_succ _)
      · -- a row elsewhere
        refine ⟨.inl ⟨rfl, _, SqL.of S6.hd⟩, D, us, at', at'.toNat, _, rfl, rfl, S6.hd, by omega, by omega, seqIdx a0 a2, hvn, ?_⟩
        have S7 := S6.set (o' := .lst (us.eraseIdx at'.toNat))
        refine ⟨.inl ⟨rfl, _, SqL.of S7.hd⟩, _, .inl (SqL.of S7.hd), G2, _, b, o5, _, rfl, S7.sw, B5, by omega, by omega, fun r8 o8 H8 r80 r81 B8 S8 => ?_⟩
        have S8 := S8.sw
        refine ⟨D, us.eraseIdx at'.toNat, r8, _, rfl, rfl, S8.hd, smallL (by omega), r80, by omega, ?_⟩
        refine fin _ _ o8 G2 _ _ _ _ _ _ (Same.refl _) B8 S8.set (prd_ins _ (prd_erase _ hu) rwA) ?_
        rw [ins_len]
        omega
    · obtain ⟨y4, y5, y6, y7, y8, o', G2, us, rs, rfl, s2, B2, S3, hu, rl⟩ := h
      exact q D us rs o' G2 _ s2 S3 hu (by omega) B2

end
end K41
set_option Elab.async false
set_option linter.all false
set_option maxRecDepth 100000
set_option maxHeartbeats 4000000
namespace K41
open PySem PySem.Spec PyProof.Rows L2 XL
section
variable {P : Program} {w : World} {K : PySem.W.Frag} {mg : Str → Option Value} {base : Heap}
/-! ### the law -/
def spLaw (K : PySem.W.Frag) : Sp := fun vs H Q _ => ∃ (a : Addr) (ns : List Int), vs = [.ref a] ∧ SqL K H a (ns.map V.int) ∧ ns.length ≤ 63 ∧ ∀ H', Q (.bl true) H'
theorem log_len (hs es : List En) : (logB hs es).length ≤ hs.length + es.length := by
  unfold logB
  rw [List.length_append, List.length_map, List.length_map, List.length_reverse]
  have h1 : (goes hs es).length ≤ hs.length := List.length_filter_le _ _
  have h2 : (comes hs es).length ≤ es.length := List.length_filter_le _ _
  omega
theorem log_arm {hs es : List En} {r : Rw} (h : r ∈ logB hs es) (ha : r.arm = true) : ∃ e ∈ es, r = e.on := by
  unfold logB at h
  rcases List.mem_append.mp h with h | h
  · obtain ⟨g, _, rfl⟩ := List.mem_map.mp h
    cases ha
  · obtain ⟨e, he, rfl⟩ := List.mem_map.mp h
    exact ⟨e, (List.mem_filter.mp he).1, rfl⟩
theorem held_le {hs es : List En} (u : (hs.map En.pr).Nodup) (n : (es.map En.pr).Nodup) {m : Nat} (h : es.length ≤ m) : (heldB hs es).length ≤ m := by rw [held_len u n]; exact h
theorem perm_two {α : Type} (e t b w l d : α) : [e, t, b, w, l, d].Perm [b, w, l, e, t, d] := by
  have h1 : ([e, t] ++ ([b, w, l] ++ [d])).Perm ([b, w, l] ++ ([e, t] ++ [d])) := by
    rw [← List.append_assoc, ← List.append_assoc]
    exact List.Perm.append_right _ List.perm_append_comm
  exact h1
theorem perm_lg {α : Type} (d5 e t b w l d : α) : [d5, e, t, b, w, l, d].Perm [l, b, d5, e, t, w, d] := by
  have h1 : ([d5, e, t] ++ b :: ([w, l, d])).Perm (b :: ([d5, e, t] ++ [w, l, d])) := List.perm_middle
  have h2 : ([b, d5, e, t, w] ++ l :: [d]).Perm (l :: ([b, d5, e, t, w] ++ [d])) := List.perm_middle
  exact h1.trans h2
/-- the state behind each turn -/
structure Tn (K : PySem.W.Frag) (w : World) (C de e b Lg W : Addr) (M : List (Addr × HO)) (i : Nat) (G : Hp) (H : Hp) (R : Addr) (es : List En) (rs : List Rw) (hs : List En) : Prop where
  ex : ∃ (St : Addr) (o od : HO) (lg ss zs : List V) (kvs : List (PyData × V)), Bag G o ∧ Sep G ((b, o) :: (W, od) :: (Lg, .lst lg) :: (e, .ins C de [("held", .ref St)]) :: (St, .lst ss) :: M) H ∧ G R = some (.lst zs) ∧ Paired (EnA K G) zs es ∧ Paired (EnA K G) ss hs ∧ Paired (RwA K G) lg rs ∧ DD K w G W od kvs ∧ Bf G kvs ∧ kvs.length ≤ i * 36
  sn : snd rs = some (hs.map En.ar)
  nd : (hs.map En.pr).Nodup
  ln : hs.length = es.length
  al : ∀ x ∈ es, x.pr ∈ hs.map En.pr
  hl : hs.length ≤ 36
  rl : rs.length ≤ i * 72
theorem ok_law (T : Top K mg w) {k : Nat} (G_bag : FnOk P w K mg base CX0 k T.a_bag T.d_bag ["_law_script"] (spBag K)) (G_pick : FnOk P w K mg base CX0 k T.a_pick T.d_pick ["_law_bag_here", "_law_many"] spPick) (G_pairs : FnOk P w K mg base CX0 k T.a_pairs T.d_pairs ["_law_bag_here", "_law_most"] (spPairs K))
    (G_entries : FnOk P w K mg base CX0 k T.a_entries T.d_entries ["_law_bag_here", "_law_pairs_here", "_law_before"] (spEntries K w)) (G_Effects_init : FnOk P w K mg base CX0 k T.a_Effects_init T.d_Effects_init ["self"] (spEInit T.C_Effects)) (G_Effects_bring : FnOk P w K mg base CX0 k T.a_Effects_bring T.d_Effects_bring ["self", "entries"] (spBring K T.C_Effects))
    (G_Effects_armed : FnOk P w K mg base CX0 k T.a_Effects_armed T.d_Effects_armed ["self"] (spArmed K T.C_Effects)) (G_rows : FnOk P w K mg base CX0 k T.a_rows T.d_rows ["_law_log"] (spRows K)) (G_walk : FnOk P w K mg base CX0 k T.a_walk T.d_walk ["_law_log"] (spWalk K))
    (G_same : FnOk P w K mg base CX0 k T.a_same T.d_same ["_law_told", "_law_due"] (spSame K)) (G_judged : FnOk P w K mg base CX0 k T.a_judged T.d_judged ["_law_log"] (spJudged K)) (G_free : FnOk P w K mg base CX0 k T.a_free T.d_free ["_law_bag_here", "_law_pairs_here"] (spFree K)) (G_changed : FnOk P w K mg base CX0 k T.a_changed T.d_changed ["_law_bag_here", "_law_log", "_law_pairs_here"] (spChanged K)) :
    FnOk P w K mg base CX0 (k + 3) T.a_law T.d_law ["_law_script"] (spLaw K) := by
  refine T.F_law.ok sc_law (fun vs H Q E h => ?_) (fun cdv A outer s0 H vs Q E hr h => ?_)
  · obtain ⟨a, ns, rfl, _⟩ := h
    rfl
  · obtain ⟨a, ns, rfl, h1, hl, q⟩ := h
    refine ⟨_, (pss_cons (ps_set (i := 1) sc_law.nd rfl (.inl rfl) (pe_call G_bag (hr.mono (by omega)) (by rfl) T.g_bag T.F_bag.kp T.b_bag .nil pass0 (pa_cons (xv 0) pa_nil)))
      (pss_cons (ps_set (i := 2) sc_law.nd rfl (.inl rfl) (pe_call G_pairs (hr.mono (by omega)) (by rfl) T.g_pairs T.F_pairs.kp T.b_pairs .nil pass0 (pa_cons (xv 1) (pa_cons (pe_ix (ix_k K) (pe_lst (pa_cons (pe_op op_addY pe_int (pe_call G_pick (hr.mono (by omega)) (by rfl) T.g_pick T.F_pick.kp T.b_pick .nil pass0 (pa_cons (xv 1) (pa_cons pe_int pa_nil)))) (pa_cons (pe_op op_addY pe_int (pe_call G_pick (hr.mono (by omega)) (by rfl) T.g_pick T.F_pick.kp T.b_pick .nil pass0 (pa_cons (xv 1) (pa_cons pe_int pa_nil)))) pa_nil))) (pe_op op_divY (pe_call G_pick (hr.mono (by omega)) (by rfl) T.g_pick T.F_pick.kp T.b_pick .nil pass0 (pa_cons (xv 1) (pa_cons pe_int pa_nil))) pe_int) (fun _ _ => rfl)) pa_nil))))
      (pss_cons (ps_set (i := 3) sc_law.nd rfl (.inl rfl) (pe_make0 T.mk_Effects G_Effects_init (hr.mono (by omega)) (by rfl) T.g_Effects T.b_Effects_init .nil pass0))
      (pss_cons (ps_set (i := 4) sc_law.nd rfl (.inl rfl) (pe_lst pa_nil))
      (pss_cons (ps_set (i := 5) sc_law.nd rfl (.inl rfl) (pe_dnewD K w))
      (pss_cons (ps_set (i := 6) sc_law.nd rfl (.inl rfl) (pe_lst pa_nil))
      (xss_cut (ps_for PassesOwn.never rfl (pi_range1 (by rfl) T.m_range (pa_cons (pe_op op_addY pe_int (pe_call G_pick (hr.mono (by omega)) (by rfl) T.g_pick T.F_pick.kp T.b_pick .nil pass0 (pa_cons (xv 1) (pa_cons pe_int pa_nil)))) pa_nil)) (pg_name (i := 7) sc_law.nd rfl (.inl rfl))
      (pss_cons (ps_set (i := 6) sc_law.nd rfl (.inl rfl) (pe_call G_entries (hr.mono (by omega)) (by rfl) T.g_entries T.F_entries.kp T.b_entries .nil pass0 (pa_cons (xv 1) (pa_cons (xv 2) (pa_cons (xv 5) pa_nil)))))
      (pss_cons (ps_set (i := 8) sc_law.nd rfl (.inl rfl) (pe_meth (xv 3) T.cl_Effects T.me_Effects_bring G_Effects_bring (hr.mono (by omega)) T.b_Effects_bring .nil pass0 (pa_cons (pe_callTy (call_listK K) (by rfl) T.m_list (by decide +kernel) (pa_cons (xv 6) pa_nil)) pa_nil)))
      (pss_cons (xs_if (pt_not (xt_truK K (pe_call G_rows (hr.mono (by omega)) (by rfl) T.g_rows T.F_rows.kp T.b_rows .nil pass0 (pa_cons (xv 8) pa_nil))))
      (pss_one (ps_ret pe_bl))
      pss_nil)
      (xss_cut (ps_for PassesOwn.never rfl (pi_listK K (xv 8)) (pg_name (i := 9) sc_law.nd rfl (.inl rfl))
      (pss_one (xs_if (PW.pt (xw_and (xt_cmp (op_eqLK K hr.u190) (pe_ix (ix_k K) (xv 9) pe_int (fun _ _ => rfl)) pe_str (nomark _)) (pw_and1 (xt_cmp (notin_deepK K (u65 hr)) (pe_slice (sl_tupK K) (xv 9) (po_some pe_int) po_none) (pe_lc (own := [("_law_one", 10)]) (by rfl) sc_law.nd (pi_listK K (xv 6)) (blkOk_by (N := ["_law_script", "_law_bag_here", "_law_pairs_here", "_law_board", "_law_log", "_law_before", "_law_rows_here", "_law_turn", "_law_told", "_law_row", "_law_one", "_law_at", "_law_word", "_law_armed", "_law_free_here"]) (sc := defScope s_law) (by decide +kernel)) (fun _ _ _ _ _ => (pg_name (i := 10) sc_law.nd rfl (.inl rfl))) (fun _ _ _ _ _ => pts_nil) (fun _ _ _ _ _ => (pe_slice (sl_tupK K) (xv 10) po_none (po_some pe_int)))) (by rfl)))))
      (pss_one (ps_ret pe_bl))
      pss_nil)))
      (pss_one (ps_expr (pe_bmK K PySem.F.plainAttrs_list PySem.F.slot_list_extend PySem.F.type_list_extend mt_extend (xv 4) (pa_cons (xv 8) pa_nil)))))))))
      (pss_cons (ps_asg (pe_call G_walk (hr.mono (by omega)) (by rfl) T.g_walk T.F_walk.kp T.b_walk .nil pass0 (pa_cons (xv 4) pa_nil)) (pg_tupK K 3 (pgs_cons (pg_name (i := 11) sc_law.nd rfl (.inl rfl)) (pgs_cons (pg_name (i := 12) sc_law.nd rfl (.inl rfl)) (pgs_cons (pg_name (i := 13) sc_law.nd rfl (.inl rfl)) pgs_nil)))))
      (pss_cons (xs_if (PW.pt (xw_or (xt_cmp (op_neLK K hr.u190) (xv 12) pe_str (nomark _)) (pw_or1 (xt_cmp (op_neLK K hr.u190) (pe_callB (cr_lenK K) (by rfl) T.m_len (by decide +kernel) (pa_cons (xv 13) pa_nil)) (pe_callB (cr_lenK K) (by rfl) T.m_len (by decide +kernel) (pa_cons (xv 6) pa_nil)) (nomark _)))))
      (pss_one (ps_ret pe_bl))
      pss_nil)
      (xss_cut (ps_for PassesOwn.never rfl (pi_listK K (xv 6)) (pg_name (i := 10) sc_law.nd rfl (.inr rfl))
      (pss_one (xs_if (xt_cmp (op_eqLK K hr.u190) (pe_lc (own := [("_law_row", 9)]) (by rfl) sc_law.nd (pi_listK K (xv 13)) (blkOk_by (N := ["_law_script", "_law_bag_here", "_law_pairs_here", "_law_board", "_law_log", "_law_before", "_law_rows_here", "_law_turn", "_law_told", "_law_row", "_law_one", "_law_at", "_law_word", "_law_armed", "_law_free_here"]) (sc := defScope s_law) (by decide +kernel)) (fun _ _ _ _ _ => (pg_name (i := 9) sc_law.nd rfl (.inl rfl))) (fun _ _ _ _ _ => (pts_one (PW.pt (xw_and (xt_cmp (op_eqLK K hr.u190) (pe_ix (ix_k K) (xv 9) pe_int (fun _ _ => rfl)) (pe_ix (ix_k K) (xv 10) pe_int (fun _ _ => rfl)) (nomark _)) (pw_and1 (xt_cmp (op_eqLK K hr.u190) (pe_ix (ix_k K) (xv 9) pe_int (fun _ _ => rfl)) (pe_ix (ix_k K) (xv 10) pe_int (fun _ _ => rfl)) (nomark _))))))) (fun _ _ _ _ _ => (xv 9))) (pe_lst pa_nil) (nomark _))
      (pss_one (ps_ret pe_bl))
      pss_nil)))
      (pss_cons (xs_if (PW.pt (xw_or (pt_not (xt_truK K (pe_call G_same (hr.mono (by omega)) (by rfl) T.g_same T.F_same.kp T.b_same .nil pass0 (pa_cons (pe_meth0 (xv 3) T.cl_Effects T.me_Effects_armed G_Effects_armed (hr.mono (by omega)) T.b_Effects_armed .nil pass0) (pa_cons (xv 13) pa_nil))))) (xw_or (pt_not (xt_truK K (pe_call G_judged (hr.mono (by omega)) (by rfl) T.g_judged T.F_judged.kp T.b_judged .nil pass0 (pa_cons (xv 4) pa_nil)))) (pw_or1 (pt_not (xt_truK K (pe_call G_judged (hr.mono (by omega)) (by rfl) T.g_judged T.F_judged.kp T.b_judged .nil pass0 (pa_cons (pe_lst pa_nil) pa_nil))))))))
      (pss_one (ps_ret pe_bl))
      pss_nil)
      (pss_cons (xs_if (pt_not (xt_truK K (pe_call G_judged (hr.mono (by omega)) (by rfl) T.g_judged T.F_judged.kp T.b_judged .nil pass0 (pa_cons (pe_slice (sl_listK K) (xv 4) po_none (po_some (pe_call G_pick (hr.mono (by omega)) (by rfl) T.g_pick T.F_pick.kp T.b_pick .nil pass0 (pa_cons (xv 1) (pa_cons (pe_op op_addY (pe_callB (cr_lenK K) (by rfl) T.m_len (by decide +kernel) (pa_cons (xv 4) pa_nil)) pe_int) pa_nil))))) pa_nil))))
      (pss_one (ps_ret pe_bl))
      pss_nil)
      (pss_cons (ps_set (i := 14) sc_law.nd rfl (.inl rfl) (pe_call G_free (hr.mono (by omega)) (by rfl) T.g_free T.F_free.kp T.b_free .nil pass0 (pa_cons (xv 1) (pa_cons (xv 2) pa_nil))))
      (pss_one (ps_ret (xe_and (pe_call G_judged (hr.mono (by omega)) (by rfl) T.g_judged T.F_judged.kp T.b_judged .nil pass0 (pa_cons (pe_call G_changed (hr.mono (by omega)) (by rfl) T.g_changed T.F_changed.kp T.b_changed .nil pass0 (pa_cons (xv 1) (pa_cons (xv 4) (pa_cons (xv 2) pa_nil)))) pa_nil)) (pe_one (pe_call G_judged (hr.mono (by omega)) (by rfl) T.g_judged T.F_judged.kp T.b_judged .nil pass0 (pa_cons (pe_call G_changed (hr.mono (by omega)) (by rfl) T.g_changed T.F_changed.kp T.b_changed .nil pass0 (pa_cons (xv 1) (pa_cons (xv 14) (pa_cons (xv 2) pa_nil)))) pa_nil))))))))))))))))))), ?_⟩
    refine ⟨H, [], a, ns, rfl, sep0, h1, hl, fun b o G1 H1 _ B1 S1 => ?_⟩
    -- pairs
    refine ⟨G1, _, b, o, 4, rfl, S1, B1, by decide, by decide, fun r2 o2 H2 r20 r21 B2 S2 => ?_⟩
    refine ⟨G1, _, b, o2, 12, rfl, S2, B2, by decide, by decide, fun r3 o3 H3 r30 r31 B3 S3 => ⟨sz, fun Z nZ => ?_⟩⟩
    obtain ⟨G4, s4, S4, h4⟩ := Sep.mk (o := .lst [.int (1 + r2), .int (1 + r3)]) S3 nZ
    refine ⟨G4, _, b, o3, 9, rfl, S4, B3.same s4, by decide, by decide, fun r5 o5 H5 r50 r51 B5 S5 => ⟨⟨by decide, by decide⟩, fun d ed _ => ?_⟩⟩
    have hm : ∃ m : Nat, atI [V.int (1 + r2), .int (1 + r3)] d = some (.int (m : Nat)) ∧ 1 ≤ m ∧ m ≤ 12 := by
      have : d = 0 ∨ d = 1 := by omega
      rcases this with e | e
      · subst e
        exact ⟨(1 + r2).toNat, by rw [show (((1 + r2).toNat : Nat) : Int) = 1 + r2 by omega]; rfl, by omega, by omega⟩
      · subst e
        exact ⟨(1 + r3).toNat, by rw [show (((1 + r3).toNat : Nat) : Int) = 1 + r3 by omega]; rfl, by omega, by omega⟩
    obtain ⟨m, hm, m1, m2⟩ := hm
    refine ⟨_, _, .inl (SqL.of (S5.st h4)), hm, G4, _, b, o5, m, rfl, S5, B5, m1, m2, fun p ys ps o6 G6 H6 s6 hp hps nps p1 p2 B6 S6 => ?_⟩
    -- the board
    refine fun e de ne nde dne => ?_
    have S7 := S6.new2 (o := .ins T.C_Effects de []) (u := .own e) ne nde dne
    refine ⟨G6, _, e, de, rfl, S7, fun St H8 S8 => ⟨rfl, ?_⟩⟩
    refine ⟨sz, fun Lg nLg => ?_⟩
    have S9 := S8.new (o := .lst []) nLg
    refine fun W o0 nW d0 => ?_
    have S10 := S9.new (o := o0) nW
    refine ⟨sz, fun R nR => ?_⟩
    obtain ⟨G11, s11, S11, h11⟩ := Sep.mk (o := .lst []) S10 nR
    have B11 := B6.same s11
    have S12 : Sep G11 ((b, o6) :: (W, o0) :: (Lg, .lst []) :: (e, .ins T.C_Effects de [("held", .ref St)]) :: (St, .lst []) :: (de, .own e) :: []) _ := Sep.pull (A := [_, _, _, _, _]) S11
    have hp11 := s11 _ _ hp
    have hps11 := prd_sameP s11 hps
    refine ⟨fun σ H' => ∃ (i : Nat) (y7 y8 y9 y10 : Option V) (G' : Hp) (R : Addr) (es : List En) (rs : List Rw) (hs : List En), i ≤ 7 ∧ σ = [some (.ref a), some (.ref b), some (.ref p), some (.ref e), some (.ref Lg), some (.ref W), some (.ref R), y7, y8, y9, y10, none, none, none, none] ∧ Same G11 G' ∧ Tn K w T.C_Effects de e b Lg W [(de, .own e)] i G' H' R es rs hs, ?_, fun σ H14 h => ?_⟩
    · refine ⟨G11, _, b, o6, 7, rfl, S12, B11, by decide, by decide, fun r13 o13 H13 r130 r131 B13 S13 => ⟨_, rfl, by omega, by omega, for_range (lo := 0) (n := (1 + r13).toNat) (fun i σ H' => ∃ (y7 y8 y9 y10 : Option V) (G' : Hp) (R : Addr) (es : List En) (rs : List Rw) (hs : List En), σ = [some (.ref a), some (.ref b), some (.ref p), some (.ref e), some (.ref Lg), some (.ref W), some (.ref R), y7, y8, y9, y10, none, none, none, none] ∧ Same G11 G' ∧ Tn K w T.C_Effects de e b Lg W [(de, .own e)] i G' H' R es rs hs) ⟨_, _, _, _, G11, R, [], [], [], rfl, Same.refl _, ⟨St, o13, o0, [], [], [], [], B13, S13, h11, .nil, .nil, .nil, d0 G11, (fun _ _ h => nomatch h), Nat.le_refl _⟩, rfl, List.nodup_nil, rfl, (fun _ h => nomatch h), Nat.zero_le _, Nat.zero_le _⟩ (fun i σ H' hi h => ?_) (fun σ H' h => ?_)⟩⟩
      · obtain ⟨y7, y8, y9, y10, G2, R, es0, rs, hs, rfl, s2, tn⟩ := h
        have i7 : i < 7 := by omega
        obtain ⟨St, o, od, lg, ss, zs0, kvs, B, S, hR, _, hss, hlg, dd, bf, kl⟩ := tn.ex
        have hpl := SqL.of (K := K) (s2 _ _ hp11)
        refine ⟨G2, _, b, p, W, o, od, ys, ps, kvs, i * 36, rfl, S, B, hpl, prd_sameP s2 hps11, nps, p2, dd, bf, kl, by omega, fun R3 zs es o3 od3 kvs3 G3 H3 s3 S3 hz ne el B3 dd3 bf3 kl3 => ?_⟩
        -- brought
        have S4 := S3.frz
        have s4 := S3.frzS
        generalize hG4 : upd G3 R3 (.lst zs) = G4 at S4 s4
        have hR3 : G4 R3 = some (.lst zs) := by rw [← hG4]; exact upd_same
        have s24 := s3.trans s4
        have hz4 := prd_sameE s4 hz
        refine ⟨e, de, _, rfl, Sep.here (A := [_, _, _]) S4, rfl, R3, zs, rfl, .inl (SqL.of (S4.st hR3)), fun Z5 nZ5 => ?_⟩
        obtain ⟨G5, s5, S5, h5⟩ := Sep.mk (o := .lst zs) S4 nZ5
        have s25 := s24.trans s5
        have S6 : Sep G5 ((e, .ins T.C_Effects de [("held", .ref St)]) :: (St, .lst ss) :: (b, o3) :: (W, od3) :: (Lg, .lst lg) :: (de, .own e) :: []) _ := (Sep.pull (A := [_, _, _]) S5).perm (List.Perm.cons _ (List.perm_middle (l₁ := [_, _, _])))
        have hz5 := prd_sameE s5 hz4
        refine ⟨G5, _, e, Z5, de, St, ss, zs, hs, es, rfl, S6, prd_sameE s25 hss, SqL.of h5, hz5, tn.nd, ne, by have := tn.hl; omega, by omega, fun D St6 lg6 ss6 G6 H6 s6 S7 hlg6 hss6 => ?_⟩
        have s26 := s25.trans s6
        have hz6 := prd_sameE s6 hz5
        have S8 := S7.frz
        have s8 := S7.frzS
        generalize hG8 : upd G6 D (.lst lg6) = G8 at S8 s8
        have hD : G8 D = some (.lst lg6) := by rw [← hG8]; exact upd_same
        have s28 := s26.trans s8
        have hlg8 := prd_sameR s8 hlg6
        refine ⟨G8, _, D, lg6, _, rfl, S8, SqL.of hD, hlg8, ff, fun _ => ?_⟩
        have S9 : Sep G8 ((b, o3) :: (W, od3) :: (Lg, .lst lg) :: (e, .ins T.C_Effects de [("held", .ref St6)]) :: (St6, .lst ss6) :: (de, .own e) :: []) _ := S8.perm (perm_two _ _ _ _ _ _)
        have hR8 := (s5.trans (s6.trans s8)) _ _ hR3
        have hz8 := prd_sameE s8 hz6
        have zl := prd_len hz
        -- what was armed was told
        refine ⟨fun σ H' => ∃ (y9 y10 : Option V) (G' : Hp), σ = [some (.ref a), some (.ref b), some (.ref p), some (.ref e), some (.ref Lg), some (.ref W), some (.ref R3), some (.int (0 + (i : Nat))), some (.ref D), y9, y10, none, none, none, none] ∧ Same G8 G' ∧ Sep G' ((b, o3) :: (W, od3) :: (Lg, .lst lg) :: (e, .ins T.C_Effects de [("held", .ref St6)]) :: (St6, .lst ss6) :: (de, .own e) :: []) H', ?_, fun σ H10 h => ?_⟩
        · refine ⟨D, rfl, ⟨_, SqL.of (S9.st hD)⟩, for_list (xs := lg6) (fun j σ H' => ∃ (y9 y10 : Option V) (G' : Hp), σ = [some (.ref a), some (.ref b), some (.ref p), some (.ref e), some (.ref Lg), some (.ref W), some (.ref R3), some (.int (0 + (i : Nat))), some (.ref D), y9, y10, none, none, none, none] ∧ Same G8 G' ∧ Sep G' ((b, o3) :: (W, od3) :: (Lg, .lst lg) :: (e, .ins T.C_Effects de [("held", .ref St6)]) :: (St6, .lst ss6) :: (de, .own e) :: []) H') ⟨_, _, G8, rfl, Same.refl _, S9⟩ (fun j σ H' _ h => ?_) (fun j x σ H' hx h => ?_) (fun σ H' h => h)⟩
          · obtain ⟨_, _, G', _, s', S'⟩ := h
            exact SqL.of (S'.st (s' _ _ hD))
          · obtain ⟨y9, y10, G9, rfl, s9, S10⟩ := h
            obtain ⟨r, hr1, t, ow, rfl, ht, how, hok, lt⟩ := prd_get hlg8 hx
            have hT := SqT.of (K := K) (s9 _ _ ht)
            have ri : r ∈ logB hs es := List.mem_of_getElem? hr1
            refine ⟨_, .str (dwd r.arm), .inr (S10.t hT), at0, fun ea => ?_, fun _ => ⟨ff, fun _ => ⟨_, _, G9, rfl, s9, S10⟩⟩⟩
            have hon : ∃ e1 ∈ es, r = e1.on := log_arm ri (dwd_inj (of_decide_eq_true ea))
            obtain ⟨e1, he1, er⟩ := hon
            refine ⟨1, rfl, t, _, rfl, S10.t hT, (show ¬ (HT.sIx 4 0 (some 1) = 0 ∧ HT.sIx 4 4 none = 4) by decide), fun t11 n11 => ?_⟩
            obtain ⟨G11', s11', S11', h11'⟩ := Sep.mk (o := .tup [ow, .str r.wd, .int r.val]) S10 n11
            have s811 := s9.trans s11'
            refine ⟨R3, rfl, ⟨_, SqL.of (S11'.st (s811 _ _ hR8))⟩, fun L12 nL12 => lc_list (xs := zs) (fun i H' => ∃ (G' : Hp) (ts : List V), Same G11' G' ∧ Paired (ArA K G') ts ((es.take i).map En.ar) ∧ Sep G' ((L12, .lst ts) :: (b, o3) :: (W, od3) :: (Lg, .lst lg) :: (e, .ins T.C_Effects de [("held", .ref St6)]) :: (St6, .lst ss6) :: (de, .own e) :: []) H') ⟨G11', [], Same.refl _, .nil, S11'.new nL12⟩ (fun i H' _ h => ?_) (fun i x H' hx h => ⟨rfl, ?_⟩) (fun H' h => ?_)⟩
            · obtain ⟨G', _, s', _, S'⟩ := h
              exact SqL.of (S'.st (s' _ _ (s811 _ _ hR8)))
            · obtain ⟨G13, ts, s13, hts, S13⟩ := h
              obtain ⟨c, hc, t0, ow0, sn0, rfl, ht0, how0, hok0, lt0, hsn0⟩ := prd_get hz8 hx
              have s813 := s811.trans s13
              have tl := prd_len hts
              rw [List.length_map, List.length_take] at tl
              refine ⟨3, rfl, t0, _, rfl, S13.t (SqT.of (s813 _ _ ht0)), (show ¬ (HT.sIx 4 0 none = 0 ∧ HT.sIx 4 4 (some 3) = 4) by decide), fun t14 n14 => ?_⟩
              obtain ⟨G15, s15, S15, h15⟩ := Sep.mk (o := .tup [ow0, .str c.wd, .int c.val]) S13 n14
              refine ⟨ts, S15.hd, smallL (by omega), G15, ts ++ [.ref t14], s13.trans s15, ?_, S15.set⟩
              rw [take_snoc hc, List.map_append]
              exact prd_app (prd_same s15 hts) (.cons ⟨t14, ow0, rfl, h15, OwV.of (dp_same (s813.trans s15) how0), lt0⟩ .nil)
            · obtain ⟨G13, ts, s13, hts, S13⟩ := h
              rw [zl, List.take_length] at hts
              have rowA : ArA K G13 (.ref t11) (r.ow, r.wd, r.val) := ⟨t11, ow, rfl, s13 _ _ h11', OwV.of (dp_same (s811.trans s13) how), lt⟩
              obtain ⟨d, ds, g1, g2, g3, g4, g5⟩ := in_dat (m := 10) (by decide) (rowA.nv.same S13.1) (SqL.of (K := K) S13.hd) (prd_nv (prd_same S13.1 hts))
              refine ⟨d, ds, g1, g2, g3, g4, ?_⟩
              have hin : arD (r.ow, r.wd, r.val) ∈ (es.map En.ar).map arD := List.mem_map_of_mem (List.mem_map.mpr ⟨e1, he1, by rw [er]; rfl⟩)
              rw [g5, decide_eq_true hin]
              exact ⟨ff, fun _ => ⟨_, _, G13, rfl, s811.trans s13, S13.drop⟩⟩
        · obtain ⟨y9, y10, G10, rfl, s10, S10⟩ := h
          have hD10 := S10.st (s10 _ _ hD)
          have lgl := prd_len hlg
          have l6l := prd_len hlg6
          have ll := log_len hs es
          have rl := tn.rl
          have hsl := tn.hl
          refine ⟨.inl ⟨rfl, _, SqL.of (Sep.here (A := [_, _]) S10)⟩, Lg, D, lg, lg6, rfl, rfl, Sep.here (A := [_, _]) S10, hD10, small (by omega), ?_⟩
          have S11' := Sep.setAt (A := [_, _]) (o' := .lst (lg ++ lg6)) S10
          have s210 := s28.trans s10
          refine ⟨_, _, _, _, G10, R3, es, rs ++ logB hs es, heldB hs es, rfl, s2.trans s210, ⟨St6, o3, od3, lg ++ lg6, ss6, zs, kvs3, B3.same ((s4.trans s5).trans ((s6.trans s8).trans s10)), S11', s10 _ _ hR8, prd_sameE s10 hz8, prd_sameE (s8.trans s10) hss6, prd_app (prd_sameR s210 hlg) (prd_sameR s10 hlg8), dd3.same ((s4.trans s5).trans ((s6.trans s8).trans s10)), bf3.same ((s4.trans s5).trans ((s6.trans s8).trans s10)), by omega⟩, ?_, held_pairs tn.nd ne, held_len tn.nd ne, held_all ne, held_le tn.nd ne el, ?_⟩
          · rw [snd_fold _ _ tn.sn]
            exact bring_log tn.nd ne
          · rw [List.length_append]
            omega
      · obtain ⟨y7, y8, y9, y10, G', R, es, rs, hs, rfl, s', tn⟩ := h
        exact ⟨_, _, _, _, _, G', R, es, rs, hs, by omega, rfl, s', tn⟩
    · obtain ⟨i, y7, y8, y9, y10, G2, R, es, rs, hs, i7, rfl, s2, tn⟩ := h
      obtain ⟨St, o, od, lg, ss, zs, kvs, B, S, hR, hz, hss, hlg, dd, bf, kl⟩ := tn.ex
      have rl := tn.rl
      have hsl := tn.hl
      have lgl := prd_len hlg
      refine ⟨G2, _, Lg, lg, rs, rfl, S, (fun G' H' s S => SqL.of (Sep.here (A := [_, _]) S)), hlg, by omega, fun ar har t D ds G3 H3 s3 ht hD hd S3 => ?_, fun _ _ _ _ bd => (bd.not tn.sn).elim⟩
      obtain rfl : ar = hs.map En.ar := Option.some.inj (har.symm.trans tn.sn)
      refine ⟨t, _, rfl, S3.t (SqT.of ht), rfl, _, _, rfl, _, _, rfl, _, _, rfl, rfl, ?_⟩
      refine ⟨(fun e => nomatch ((eqs _).symm.trans e)), fun _ => ?_⟩
      have dl := prd_len hd
      rw [List.length_map, tn.ln, ← prd_len hz] at dl
      have hD3 := SqL.of (K := K) (S3.st hD)
      have hR3 := s3 _ _ hR
      refine ⟨_, .inl hD3, _, .inl (SqL.of (S3.st hR3)), ?_⟩
      have ne0 : (!decide (((ds.length : Nat) : Int) = ((zs.length : Nat) : Int))) = false := by rw [dl, decide_eq_true rfl]; rfl
      refine ⟨(fun e => nomatch (ne0.symm.trans e)), fun _ => ?_⟩
      -- each of the last list is armed
      have hz3 := prd_sameE s3 hz
      refine ⟨fun σ H' => ∃ (y9 y10 : Option V) (G' : Hp), σ = [some (.ref a), some (.ref b), some (.ref p), some (.ref e), some (.ref Lg), some (.ref W), some (.ref R), y7, y8, y9, y10, some (.int (rs.length : Nat)), some (.str "sound"), some (.ref D), none] ∧ Same G3 G' ∧ Sep G' ((b, o) :: (W, od) :: (Lg, .lst lg) :: (e, .ins T.C_Effects de [("held", .ref St)]) :: (St, .lst ss) :: (de, .own e) :: []) H', ?_, fun σ H4 h => ?_⟩
      · refine ⟨R, rfl, ⟨_, SqL.of (S3.st hR3)⟩, for_list (xs := zs) (fun j σ H' => ∃ (y9 y10 : Option V) (G' : Hp), σ = [some (.ref a), some (.ref b), some (.ref p), some (.ref e), some (.ref Lg), some (.ref W), some (.ref R), y7, y8, y9, y10, some (.int (rs.length : Nat)), some (.str "sound"), some (.ref D), none] ∧ Same G3 G' ∧ Sep G' ((b, o) :: (W, od) :: (Lg, .lst lg) :: (e, .ins T.C_Effects de [("held", .ref St)]) :: (St, .lst ss) :: (de, .own e) :: []) H') ⟨_, _, G3, rfl, Same.refl _, S3⟩ (fun j σ H' _ h => ?_) (fun j x σ H' hx h => ?_) (fun σ H' h => h)⟩
        · obtain ⟨_, _, G', _, s', S'⟩ := h
          exact SqL.of (S'.st (s' _ _ hR3))
        · obtain ⟨y9, y10, G4, rfl, s4, S4⟩ := h
          obtain ⟨c, hc, t1, ow1, sn1, rfl, ht1, how1, hok1, lt1, hsn1⟩ := prd_get hz3 hx
          obtain ⟨wa, rfl⟩ := ow_ref how1
          have hT := SqT.of (K := K) (s4 _ _ ht1)
          have how4 := dp_same s4 how1
          have hd4 := prd_same s4 hd
          have hD4 := SqL.of (K := K) (s4 _ _ hD)
          refine ⟨D, rfl, ⟨_, S4.l hD4⟩, fun B5 nB5 => lc_list (xs := ds) (fun i H' => ∃ ts, Paired (ArA K G4) ts (thr ((hs.map En.ar).take i) c.ow c.wd) ∧ Sep G4 ((B5, .lst ts) :: (b, o) :: (W, od) :: (Lg, .lst lg) :: (e, .ins T.C_Effects de [("held", .ref St)]) :: (St, .lst ss) :: (de, .own e) :: []) H') ⟨[], .nil, S4.new nB5⟩ (fun i H' _ h => ?_) (fun i x H' hx h => ⟨rfl, ?_⟩) (fun H' h => ?_)⟩
          · obtain ⟨_, _, S'⟩ := h
            exact S'.l hD4
          · obtain ⟨ts, hts, S5⟩ := h
            obtain ⟨y, hy, t0, ow0, rfl, ht0, how0, lt0⟩ := prd_get hd4 hx
            obtain ⟨w0, rfl⟩ := how0.ref
            have iy := (List.getElem?_eq_some_iff.mp hy).1
            rw [List.length_map] at iy
            have hT0 := SqT.of (K := K) ht0
            have tl : ts.length < 100000 := by
              rw [prd_len hts]
              unfold thr
              have := List.length_filter_le (fun x : Ar => decide (x.1 = c.ow ∧ x.2.1 = c.wd)) ((hs.map En.ar).take i)
              rw [List.length_take] at this
              omega
            have th : thr ((hs.map En.ar).take (i + 1)) c.ow c.wd = thr ((hs.map En.ar).take i) c.ow c.wd ++ (if decide (y.1 = c.ow ∧ y.2.1 = c.wd) = true then [y] else []) := by
              rw [take_snoc hy]
              exact filter_snoc _ _ _
            have no : ¬ (y.1 = c.ow ∧ y.2.1 = c.wd) → ∃ ts, Paired (ArA K G4) ts (thr ((hs.map En.ar).take (i + 1)) c.ow c.wd) ∧ Sep G4 ((B5, .lst ts) :: (b, o) :: (W, od) :: (Lg, .lst lg) :: (e, .ins T.C_Effects de [("held", .ref St)]) :: (St, .lst ss) :: (de, .own e) :: []) H' := fun ne => ⟨ts, by rw [th, decide_eq_false ne, if_neg Bool.false_ne_true, List.append_nil]; exact hts, S5⟩
            obtain ⟨d, d', g1, g2, g3, g4, g5, g6⟩ := nv_dat (m := 7) (by decide) (how0.same S5.1) ((OwV.of how4).same S5.1)
            refine ⟨_, _, .inr (S5.t hT0), at0, _, _, .inr (S5.t hT), at0, d, d', g1, g2, g3, g4, g5, ?_⟩
            rw [g6]
            refine ⟨fun e1 => ?_, fun e1 => ?_⟩
            · have eo := ow_inj (of_decide_eq_true e1)
              refine ⟨_, .str y.2.1, .inr (S5.t hT0), rfl, _, .str c.wd, .inr (S5.t hT), rfl, ?_⟩
              refine tst (fun e => ?_) (fun e => no fun h => (of_decide_eq_false e) h.2)
              have ez : y.2.1 = c.wd := of_decide_eq_true e
              refine ⟨_, S5.hd, smallL tl, ts ++ [.ref t0], ?_, S5.set⟩
              rw [th, decide_eq_true ⟨eo, ez⟩, if_pos rfl]
              exact prd_app hts (.cons ⟨t0, _, rfl, ht0, how0, lt0⟩ .nil)
            · exact tst (fun e => nomatch e) (fun _ => no fun h => (of_decide_eq_false e1) (by rw [h.1]))
          · obtain ⟨ts, hts, S5⟩ := h
            rw [prd_len hd, List.take_length] at hts
            have cin : thr (hs.map En.ar) c.ow c.wd ≠ [] := fun e0 => by
              have z := atA_no.mp (thr_nil.mp e0)
              rw [prs_ar] at z
              exact z (tn.al c (List.mem_of_getElem? hc))
            refine ⟨sz, fun Z nZ => ?_⟩
            have S6 := S5.new (o := .lst []) nZ
            obtain ⟨d, d', g1, g2, g3, g4, g5, g6⟩ := nl_dat (m := 10) (by decide) (SqL.of (K := K) S6.sw.hd) (SqL.of (K := K) S6.hd) (prd_nv (prd_same S6.1 hts)) (.nil : Paired (NV K 10 _) [] [])
            refine ⟨d, d', g1, g2, g3, g4, g5, ?_⟩
            rw [g6, decide_eq_false (fun e0 => cin (List.map_eq_nil_iff.mp e0))]
            exact ⟨ff, fun _ => ⟨_, _, G4, rfl, s4, S6.drop.drop⟩⟩
      · obtain ⟨y9, y10, G4, rfl, s4, S4⟩ := h
        have s24 := s3.trans s4
        have S5 : Sep G4 ((e, .ins T.C_Effects de [("held", .ref St)]) :: (St, .lst ss) :: (b, o) :: (W, od) :: (Lg, .lst lg) :: (de, .own e) :: []) _ := S4.perm (perm_two _ _ _ _ _ _).symm
        refine ⟨e, de, _, rfl, S5.hd, rfl, G4, _, e, de, St, ss, hs, rfl, S5, prd_sameE s24 hss, by omega, fun D5 us5 G5 H5 s5 S6 hu5 => ?_⟩
        have s35 := s4.trans s5
        refine ⟨G5, _, D5, D, us5, ds, _, rfl, S6, (fun G' H' s S => SqL.of S.hd), SqL.of (S6.st (s35 _ _ hD)), hu5, prd_same s35 hd, fun G6 H6 s6 S7 => ⟨ff, fun _ => ?_⟩⟩
        have S8 : Sep G6 ((Lg, .lst lg) :: (b, o) :: (D5, .lst us5) :: (e, .ins T.C_Effects de [("held", .ref St)]) :: (St, .lst ss) :: (W, od) :: (de, .own e) :: []) _ := S7.perm (perm_lg _ _ _ _ _ _ _)
        have S9 := S8.frz
        have s9 := S8.frzS
        generalize hG9 : upd G6 Lg (.lst lg) = G9 at S9 s9
        have hLg : G9 Lg = some (.lst lg) := by rw [← hG9]; exact upd_same
        have s29 := ((s24.trans s5).trans s6).trans s9
        have hlg9 := prd_sameR s29 hlg
        have s119 := s2.trans s29
        refine ⟨G9, _, Lg, lg, rs, rfl, S9, SqL.of hLg, hlg9, by omega, fun G10 H10 s10 S10 => ⟨ff, fun _ => ⟨sz, fun Z nZ => ?_⟩⟩⟩
        obtain ⟨G11', s11', S11', h11'⟩ := Sep.mk (o := .lst []) S10 nZ
        refine ⟨G11', _, Z, [], [], rfl, S11', SqL.of h11', .nil, by decide, fun G12 H12 s12 S12 => ⟨ff, fun _ => ?_⟩⟩
        have s912 := (s10.trans s11').trans s12
        have B12 := B.same (s29.trans s912)
        have hLg12 := s912 _ _ hLg
        refine ⟨_, .inl (SqL.of (S12.st hLg12)), G12, _, b, o, _, rfl, S12, B12, by omega, by omega, fun r13 o13 H13 r130 r131 B13 S13 => ⟨r13, rfl, Lg, lg, rfl, SqL.of (S13.st hLg12), fun c nc => ?_⟩⟩
        have ec : cutV lg none (some r13) = lg.take r13.toNat := by
          have z := cut_pre lg r13.toNat (by omega)
          rwa [show ((r13.toNat : Nat) : Int) = r13 by omega] at z
        rw [ec]
        obtain ⟨G14, s14, S14, h14⟩ := Sep.mk (o := .lst (lg.take r13.toNat)) S13 nc
        have s914 := s912.trans s14
        refine ⟨G14, _, c, _, rs.take r13.toNat, rfl, S14, SqL.of h14, prd_take _ (prd_sameR s914 hlg9), by rw [List.length_take]; omega, fun G15 H15 s15 S15 => ⟨ff, fun _ => ?_⟩⟩
        have s915 := s914.trans s15
        have s1115 := s119.trans s915
        have hps15 := prd_sameP s1115 hps11
        refine ⟨G15, _, b, p, o13, ys, ps, rfl, S15, (B13.same s14).same s15, SqL.of (s1115 _ _ hp11), hps15, p1, p2, fun D16 us16 rs16 o16 G16 H16 s16 S16 hu16 rl16 B16 => ?_⟩
        have S17 := S16.frz
        have s17 := S16.frzS
        generalize hG17 : upd G16 D16 (.lst us16) = G17 at S17 s17
        have hD16 : G17 D16 = some (.lst us16) := by rw [← hG17]; exact upd_same
        have s1517 := s16.trans s17
        have s917 := s915.trans s1517
        have s1117 := s1115.trans s1517
        refine ⟨G17, _, b, Lg, p, o16, lg, ys, rs, ps, rfl, S17, B16.same s17, SqL.of (s917 _ _ hLg), prd_sameR s917 hlg9, by omega, SqL.of (s1117 _ _ hp11), prd_sameP s1117 hps11, p1, p2, fun D18 us18 rs18 o18 G18 H18 s18 S18 hu18 rl18 B18 => ?_⟩
        have S19 := S18.frz
        have s19 := S18.frzS
        generalize hG19 : upd G18 D18 (.lst us18) = G19 at S19 s19
        have hD18 : G19 D18 = some (.lst us18) := by rw [← hG19]; exact upd_same
        refine ⟨G19, _, D18, us18, rs18, rfl, S19, SqL.of hD18, prd_sameR s19 hu18, by omega, fun G20 H20 s20 S20 => ⟨fun _ => ?_, tt⟩⟩
        have s1720 := (s18.trans s19).trans s20
        have s1120 := s1117.trans s1720
        refine ⟨G20, _, b, D16, p, o18, us16, ys, rs16, ps, rfl, S20, (B18.same s19).same s20, SqL.of (s1720 _ _ hD16), prd_sameR (s17.trans s1720) hu16, by omega, SqL.of (s1120 _ _ hp11), prd_sameP s1120 hps11, p1, p2, fun D21 us21 rs21 o21 G21 H21 s21 S21 hu21 rl21 B21 => ?_⟩
        have S22 := S21.frz
        have s22 := S21.frzS
        generalize hG22 : upd G21 D21 (.lst us21) = G22 at S22 s22
        have hD21 : G22 D21 = some (.lst us21) := by rw [← hG22]; exact upd_same
        exact ⟨G22, _, D21, us21, rs21, rfl, S22, SqL.of hD21, prd_sameR s22 hu21, by omega, fun G23 H23 s23 S23 => q _⟩

end
end K41
set_option Elab.async false
set_option linter.all false
set_option maxRecDepth 100000
set_option maxHeartbeats 4000000
namespace K41
open PySem PySem.Spec PyProof.Rows L2 XL
theorem law_end {l : PySem.W.OpenLaw} {w : World} {K : PySem.W.Frag} {h : Heap} {mg : Str → Option Value} {fa f : Addr} {file : Str} (X : K.In h) (G : h.Ns mainGlobals mg) (hfa : mg "law" = some (.ref fa))
    (t : ∃ T : Top K mg w, T.a_law = f ∧ T.x_file = file ∧ ∀ (s : Shared) (v : Value), BindsTo s T.d_law ⟨[v], []⟩ [("_law_script", v)]) (pf0 : PySem.XExc.PF l.prog file) :
    ∃ fd : FuncData, (∀ (s : Shared) (v : Value), BindsTo s fd ⟨[v], []⟩ [("_law_script", v)]) ∧ ∀ base : Heap, K.In base → base.Ns mainGlobals mg → FnOk l.prog w K mg base CX0 60 fa fd ["_law_script"] (spLaw K) := by
  obtain ⟨T, _, ef, hb⟩ := t
  have pf : PySem.XExc.PF l.prog T.x_file := by rw [ef]; exact pf0
  have e := hfa.symm.trans T.g_law
  cases e
  refine ⟨T.d_law, hb, fun base _ _ => ?_⟩
  have Gp : ∀ k, FnOk l.prog w K mg base CX0 (k + 2) T.a_pick T.d_pick _ spPick := fun k => ok_pick T (k := k) (ok_mixed T)
  have Gn : ∀ k, FnOk l.prog w K mg base CX0 (k + 3) T.a_new_name T.d_new_name _ spNew := fun k => ok_new_name T (k := k + 2) (Gp k)
  have Gm : ∀ k, FnOk l.prog w K mg base CX0 (k + 3) T.a_mingled T.d_mingled _ (spMingled K) := fun k => ok_mingled T (k := k + 2) (Gp k)
  have Gs : ∀ k, FnOk l.prog w K mg base CX0 (k + 3) T.a_step T.d_step _ spStep := fun k => ok_step T (k := k + 2) (Gp k)
  have Go : ∀ k, FnOk l.prog w K mg base CX0 (k + 4) T.a_owner T.d_owner _ (spOwner K) := fun k => ok_owner T (k := k + 3) (Gp (k + 1)) (Gs k)
  have Gse : ∀ k, FnOk l.prog w K mg base CX0 (k + 3) T.a_seen T.d_seen _ spSeen := fun k => ok_seen T (k := k + 2) (Gp k)
  have Gpa : FnOk l.prog w K mg base CX0 57 T.a_pairs T.d_pairs _ (spPairs K) := ok_pairs T (k := 56) (Gp 54) (Gn 53) (Go 52) (Gm 53)
  have Gen : FnOk l.prog w K mg base CX0 57 T.a_entries T.d_entries _ (spEntries K w) := ok_entries T (k := 56) (Gp 54) (Gse 53) (Gm 53)
  have Gso : ∀ k, FnOk l.prog w K mg base (L2.CX l.prog w) (k + 12) T.a_sound T.d_sound _ (spSound K T.C_ArmedTwice T.C_NotArmed T.C_OldValue) := fun k => ok_sound T pf (k := k)
  have Gwa : ∀ k, FnOk l.prog w K mg base CX0 (k + 12) T.a_walk T.d_walk _ (spWalk K) := fun k => ok_walk T (k := k)
  have Gsa : ∀ k, FnOk l.prog w K mg base CX0 (k + 12) T.a_same T.d_same _ (spSame K) := fun k => ok_same T (k := k)
  have Gou : FnOk l.prog w K mg base CX0 45 T.a_outcome T.d_outcome _ (spOutcome K) := ok_outcome T pf (k := 33) (Gso 21)
  have Gby : FnOk l.prog w K mg base CX0 45 T.a_by_base T.d_by_base _ (spByBase K) := ok_by_base T pf (k := 33) (Gso 21)
  have Gju : FnOk l.prog w K mg base CX0 57 T.a_judged T.d_judged _ (spJudged K) := ok_judged T pf (k := 45) (Gwa 33) Gou (Gsa 33) Gby (fn_calm (Gso 33))
  have Gro : FnOk l.prog w K mg base CX0 57 T.a_rows T.d_rows _ (spRows K) := ok_rows T (k := 45) (ok_number T)
  have Gfr : FnOk l.prog w K mg base CX0 57 T.a_free T.d_free _ (spFree K) := ok_free T (k := 56) (Gp 54) (Gwa 44)
  have Gch : FnOk l.prog w K mg base CX0 57 T.a_changed T.d_changed _ (spChanged K) := ok_changed T (k := 56) (Gp 54)
  exact ok_law T (k := 57) (ok_bag T) (Gp 55) Gpa Gen (ok_EInit T) (ok_bring T (k := 45)) (ok_armed T) Gro (Gwa 45) (Gsa 45) Gju Gfr Gch
end K41
set_option Elab.async false
set_option linter.all false
set_option maxRecDepth 100000
set_option maxHeartbeats 4000000
namespace K41
open PySem PySem.Spec PyProof.Rows L2 XL
theorem top_mk {K : PySem.W.Frag} {W : World} {h : Heap} {mg : Str → Option Value} (X : K.In h) (G : h.Ns mainGlobals mg)
    {C0 : Addr}
    (ca0 : PySem.W.nsIn K mainGlobals "Effects" = some (some (.ref C0)))
    {f0 : Addr} {od0 an0 : Option Addr} {sl0 : Array (Option Value)} {oc0 kV0 dc0 pm0 cd0 ct0 : Value}
    (a0 : PySem.W.findIn K (.ref C0) "__init__" = some (some (.ref f0)))
    (i0 : PySem.W.isFn K (.ref f0) = true)
    (l0 : K.lookup f0 = some ⟨oc0, od0, .func (PySem.W.fnOf "__init__" "Effects.__init__" (defArgs s_Effects_init) (defBody s_Effects_init) (defScope s_Effects_init) .none kV0 dc0 pm0 an0 cd0 ct0), sl0⟩)
    (c0 : PySem.W.codeIn K cd0 "Effects.__init__" = true)
    (k0 : PySem.W.keepIn K (.ref f0) = true)
    {f1 : Addr} {od1 an1 : Option Addr} {sl1 : Array (Option Value)} {oc1 kV1 dc1 pm1 cd1 ct1 : Value}
    (a1 : PySem.W.findIn K (.ref C0) "bring" = some (some (.ref f1)))
    (i1 : PySem.W.isFn K (.ref f1) = true)
    (l1 : K.lookup f1 = some ⟨oc1, od1, .func (PySem.W.fnOf "bring" "Effects.bring" (defArgs s_Effects_bring) (defBody s_Effects_bring) (defScope s_Effects_bring) .none kV1 dc1 pm1 an1 cd1 ct1), sl1⟩)
    (c1 : PySem.W.codeIn K cd1 "Effects.bring" = true)
    (k1 : PySem.W.keepIn K (.ref f1) = true)
    {f2 : Addr} {od2 an2 : Option Addr} {sl2 : Array (Option Value)} {oc2 kV2 dc2 pm2 cd2 ct2 : Value}
    (a2 : PySem.W.findIn K (.ref C0) "armed" = some (some (.ref f2)))
    (i2 : PySem.W.isFn K (.ref f2) = true)
    (l2 : K.lookup f2 = some ⟨oc2, od2, .func (PySem.W.fnOf "armed" "Effects.armed" (defArgs s_Effects_armed) (defBody s_Effects_armed) (defScope s_Effects_armed) .none kV2 dc2 pm2 an2 cd2 ct2), sl2⟩)
    (c2 : PySem.W.codeIn K cd2 "Effects.armed" = true)
    (k2 : PySem.W.keepIn K (.ref f2) = true)
    {f3 : Addr} {od3 an3 : Option Addr} {sl3 : Array (Option Value)} {oc3 kV3 dc3 pm3 cd3 ct3 : Value}
    (a3 : PySem.W.nsIn K mainGlobals "sound" = some (some (.ref f3)))
    (l3 : K.lookup f3 = some ⟨oc3, od3, .func (PySem.W.fnOf "sound" "sound" (defArgs s_sound) (defBody s_sound) (defScope s_sound) .none kV3 dc3 pm3 an3 cd3 ct3), sl3⟩)
    (c3 : PySem.W.codeIn K cd3 "sound" = true)
    (k3 : PySem.W.keepIn K (.ref f3) = true)
    {f4 : Addr} {od4 an4 : Option Addr} {sl4 : Array (Option Value)} {oc4 kV4 dc4 pm4 cd4 ct4 : Value}
    (a4 : PySem.W.nsIn K mainGlobals "_law_mixed" = some (some (.ref f4)))
    (l4 : K.lookup f4 = some ⟨oc4, od4, .func (PySem.W.fnOf "_law_mixed" "_law_mixed" (defArgs s_mixed) (defBody s_mixed) (defScope s_mixed) .none kV4 dc4 pm4 an4 cd4 ct4), sl4⟩)
    (c4 : PySem.W.codeIn K cd4 "_law_mixed" = true)
    (k4 : PySem.W.keepIn K (.ref f4) = true)
    {f5 : Addr} {od5 an5 : Option Addr} {sl5 : Array (Option Value)} {oc5 kV5 dc5 pm5 cd5 ct5 : Value}
    (a5 : PySem.W.nsIn K mainGlobals "_law_bag" = some (some (.ref f5)))
    (l5 : K.lookup f5 = some ⟨oc5, od5, .func (PySem.W.fnOf "_law_bag" "_law_bag" (defArgs s_bag) (defBody s_bag) (defScope s_bag) .none kV5 dc5 pm5 an5 cd5 ct5), sl5⟩)
    (c5 : PySem.W.codeIn K cd5 "_law_bag" = true)
    (k5 : PySem.W.keepIn K (.ref f5) = true)
    {f6 : Addr} {od6 an6 : Option Addr} {sl6 : Array (Option Value)} {oc6 kV6 dc6 pm6 cd6 ct6 : Value}
    (a6 : PySem.W.nsIn K mainGlobals "_law_pick" = some (some (.ref f6)))
    (l6 : K.lookup f6 = some ⟨oc6, od6, .func (PySem.W.fnOf "_law_pick" "_law_pick" (defArgs s_pick) (defBody s_pick) (defScope s_pick) .none kV6 dc6 pm6 an6 cd6 ct6), sl6⟩)
    (c6 : PySem.W.codeIn K cd6 "_law_pick" = true)
    (k6 : PySem.W.keepIn K (.ref f6) = true)
    {f7 : Addr} {od7 an7 : Option Addr} {sl7 : Array (Option Value)} {oc7 kV7 dc7 pm7 cd7 ct7 : Value}
    (a7 : PySem.W.nsIn K mainGlobals "_law_mingled" = some (some (.ref f7)))
    (l7 : K.lookup f7 = some ⟨oc7, od7, .func (PySem.W.fnOf "_law_mingled" "_law_mingled" (defArgs s_mingled) (defBody s_mingled) (defScope s_mingled) .none kV7 dc7 pm7 an7 cd7 ct7), sl7⟩)
    (c7 : PySem.W.codeIn K cd7 "_law_mingled" = true)
    (k7 : PySem.W.keepIn K (.ref f7) = true)
    {f8 : Addr} {od8 an8 : Option Addr} {sl8 : Array (Option Value)} {oc8 kV8 dc8 pm8 cd8 ct8 : Value}
    (a8 : PySem.W.nsIn K mainGlobals "_law_number" = some (some (.ref f8)))
    (l8 : K.lookup f8 = some ⟨oc8, od8, .func (PySem.W.fnOf "_law_number" "_law_number" (defArgs s_number) (defBody s_number) (defScope s_number) .none kV8 dc8 pm8 an8 cd8 ct8), sl8⟩)
    (c8 : PySem.W.codeIn K cd8 "_law_number" = true)
    (k8 : PySem.W.keepIn K (.ref f8) = true)
    {f9 : Addr} {od9 an9 : Option Addr} {sl9 : Array (Option Value)} {oc9 kV9 dc9 pm9 cd9 ct9 : Value}
    (a9 : PySem.W.nsIn K mainGlobals "_law_new_name" = some (some (.ref f9)))
    (l9 : K.lookup f9 = some ⟨oc9, od9, .func (PySem.W.fnOf "_law_new_name" "_law_new_name" (defArgs s_new_name) (defBody s_new_name) (defScope s_new_name) .none kV9 dc9 pm9 an9 cd9 ct9), sl9⟩)
    (c9 : PySem.W.codeIn K cd9 "_law_new_name" = true)
    (k9 : PySem.W.keepIn K (.ref f9) = true)
    {f10 : Addr} {od10 an10 : Option Addr} {sl10 : Array (Option Value)} {oc10 kV10 dc10 pm10 cd10 ct10 : Value}
    (a10 : PySem.W.nsIn K mainGlobals "_law_step" = some (some (.ref f10)))
    (l10 : K.lookup f10 = some ⟨oc10, od10, .func (PySem.W.fnOf "_law_step" "_law_step" (defArgs s_step) (defBody s_step) (defScope s_step) .none kV10 dc10 pm10 an10 cd10 ct10), sl10⟩)
    (c10 : PySem.W.codeIn K cd10 "_law_step" = true)
    (k10 : PySem.W.keepIn K (.ref f10) = true)
    {f11 : Addr} {od11 an11 : Option Addr} {sl11 : Array (Option Value)} {oc11 kV11 dc11 pm11 cd11 ct11 : Value}
    (a11 : PySem.W.nsIn K mainGlobals "_law_owner" = some (some (.ref f11)))
    (l11 : K.lookup f11 = some ⟨oc11, od11, .func (PySem.W.fnOf "_law_owner" "_law_owner" (defArgs s_owner) (defBody s_owner) (defScope s_owner) .none kV11 dc11 pm11 an11 cd11 ct11), sl11⟩)
    (c11 : PySem.W.codeIn K cd11 "_law_owner" = true)
    (k11 : PySem.W.keepIn K (.ref f11) = true)
    {f12 : Addr} {od12 an12 : Option Addr} {sl12 : Array (Option Value)} {oc12 kV12 dc12 pm12 cd12 ct12 : Value}
    (a12 : PySem.W.nsIn K mainGlobals "_law_pairs" = some (some (.ref f12)))
    (l12 : K.lookup f12 = some ⟨oc12, od12, .func (PySem.W.fnOf "_law_pairs" "_law_pairs" (defArgs s_pairs) (defBody s_pairs) (defScope s_pairs) .none kV12 dc12 pm12 an12 cd12 ct12), sl12⟩)
    (c12 : PySem.W.codeIn K cd12 "_law_pairs" = true)
    (k12 : PySem.W.keepIn K (.ref f12) = true)
    {f13 : Addr} {od13 an13 : Option Addr} {sl13 : Array (Option Value)} {oc13 kV13 dc13 pm13 cd13 ct13 : Value}
    (a13 : PySem.W.nsIn K mainGlobals "_law_seen" = some (some (.ref f13)))
    (l13 : K.lookup f13 = some ⟨oc13, od13, .func (PySem.W.fnOf "_law_seen" "_law_seen" (defArgs s_seen) (defBody s_seen) (defScope s_seen) .none kV13 dc13 pm13 an13 cd13 ct13), sl13⟩)
    (c13 : PySem.W.codeIn K cd13 "_law_seen" = true)
    (k13 : PySem.W.keepIn K (.ref f13) = true)
    {f14 : Addr} {od14 an14 : Option Addr} {sl14 : Array (Option Value)} {oc14 kV14 dc14 pm14 cd14 ct14 : Value}
    (a14 : PySem.W.nsIn K mainGlobals "_law_entries" = some (some (.ref f14)))
    (l14 : K.lookup f14 = some ⟨oc14, od14, .func (PySem.W.fnOf "_law_entries" "_law_entries" (defArgs s_entries) (defBody s_entries) (defScope s_entries) .none kV14 dc14 pm14 an14 cd14 ct14), sl14⟩)
    (c14 : PySem.W.codeIn K cd14 "_law_entries" = true)
    (k14 : PySem.W.keepIn K (.ref f14) = true)
    {f15 : Addr} {od15 an15 : Option Addr} {sl15 : Array (Option Value)} {oc15 kV15 dc15 pm15 cd15 ct15 : Value}
    (a15 : PySem.W.nsIn K mainGlobals "_law_same" = some (some (.ref f15)))
    (l15 : K.lookup f15 = some ⟨oc15, od15, .func (PySem.W.fnOf "_law_same" "_law_same" (defArgs s_same) (defBody s_same) (defScope s_same) .none kV15 dc15 pm15 an15 cd15 ct15), sl15⟩)
    (c15 : PySem.W.codeIn K cd15 "_law_same" = true)
    (k15 : PySem.W.keepIn K (.ref f15) = true)
    {f16 : Addr} {od16 an16 : Option Addr} {sl16 : Array (Option Value)} {oc16 kV16 dc16 pm16 cd16 ct16 : Value}
    (a16 : PySem.W.nsIn K mainGlobals "_law_rows" = some (some (.ref f16)))
    (l16 : K.lookup f16 = some ⟨oc16, od16, .func (PySem.W.fnOf "_law_rows" "_law_rows" (defArgs s_rows) (defBody s_rows) (defScope s_rows) .none kV16 dc16 pm16 an16 cd16 ct16), sl16⟩)
    (c16 : PySem.W.codeIn K cd16 "_law_rows" = true)
    (k16 : PySem.W.keepIn K (.ref f16) = true)
    {f17 : Addr} {od17 an17 : Option Addr} {sl17 : Array (Option Value)} {oc17 kV17 dc17 pm17 cd17 ct17 : Value}
    (a17 : PySem.W.nsIn K mainGlobals "_law_walk" = some (some (.ref f17)))
    (l17 : K.lookup f17 = some ⟨oc17, od17, .func (PySem.W.fnOf "_law_walk" "_law_walk" (defArgs s_walk) (defBody s_walk) (defScope s_walk) .none kV17 dc17 pm17 an17 cd17 ct17), sl17⟩)
    (c17 : PySem.W.codeIn K cd17 "_law_walk" = true)
    (k17 : PySem.W.keepIn K (.ref f17) = true)
    {f18 : Addr} {od18 an18 : Option Addr} {sl18 : Array (Option Value)} {oc18 kV18 dc18 pm18 cd18 ct18 : Value}
    (a18 : PySem.W.nsIn K mainGlobals "_law_outcome" = some (some (.ref f18)))
    (l18 : K.lookup f18 = some ⟨oc18, od18, .func (PySem.W.fnOf "_law_outcome" "_law_outcome" (defArgs s_outcome) (defBody s_outcome) (defScope s_outcome) .none kV18 dc18 pm18 an18 cd18 ct18), sl18⟩)
    (c18 : PySem.W.codeIn K cd18 "_law_outcome" = true)
    (k18 : PySem.W.keepIn K (.ref f18) = true)
    {f19 : Addr} {od19 an19 : Option Addr} {sl19 : Array (Option Value)} {oc19 kV19 dc19 pm19 cd19 ct19 : Value}
    (a19 : PySem.W.nsIn K mainGlobals "_law_by_base" = some (some (.ref f19)))
    (l19 : K.lookup f19 = some ⟨oc19, od19, .func (PySem.W.fnOf "_law_by_base" "_law_by_base" (defArgs s_by_base) (defBody s_by_base) (defScope s_by_base) .none kV19 dc19 pm19 an19 cd19 ct19), sl19⟩)
    (c19 : PySem.W.codeIn K cd19 "_law_by_base" = true)
    (k19 : PySem.W.keepIn K (.ref f19) = true)
    {f20 : Addr} {od20 an20 : Option Addr} {sl20 : Array (Option Value)} {oc20 kV20 dc20 pm20 cd20 ct20 : Value}
    (a20 : PySem.W.nsIn K mainGlobals "_law_judged" = some (some (.ref f20)))
    (l20 : K.lookup f20 = some ⟨oc20, od20, .func (PySem.W.fnOf "_law_judged" "_law_judged" (defArgs s_judged) (defBody s_judged) (defScope s_judged) .none kV20 dc20 pm20 an20 cd20 ct20), sl20⟩)
    (c20 : PySem.W.codeIn K cd20 "_law_judged" = true)
    (k20 : PySem.W.keepIn K (.ref f20) = true)
    {f21 : Addr} {od21 an21 : Option Addr} {sl21 : Array (Option Value)} {oc21 kV21 dc21 pm21 cd21 ct21 : Value}
    (a21 : PySem.W.nsIn K mainGlobals "_law_free" = some (some (.ref f21)))
    (l21 : K.lookup f21 = some ⟨oc21, od21, .func (PySem.W.fnOf "_law_free" "_law_free" (defArgs s_free) (defBody s_free) (defScope s_free) .none kV21 dc21 pm21 an21 cd21 ct21), sl21⟩)
    (c21 : PySem.W.codeIn K cd21 "_law_free" = true)
    (k21 : PySem.W.keepIn K (.ref f21) = true)
    {f22 : Addr} {od22 an22 : Option Addr} {sl22 : Array (Option Value)} {oc22 kV22 dc22 pm22 cd22 ct22 : Value}
    (a22 : PySem.W.nsIn K mainGlobals "_law_changed" = some (some (.ref f22)))
    (l22 : K.lookup f22 = some ⟨oc22, od22, .func (PySem.W.fnOf "_law_changed" "_law_changed" (defArgs s_changed) (defBody s_changed) (defScope s_changed) .none kV22 dc22 pm22 an22 cd22 ct22), sl22⟩)
    (c22 : PySem.W.codeIn K cd22 "_law_changed" = true)
    (k22 : PySem.W.keepIn K (.ref f22) = true)
    {f23 : Addr} {od23 an23 : Option Addr} {sl23 : Array (Option Value)} {oc23 kV23 dc23 pm23 cd23 ct23 : Value}
    (a23 : PySem.W.nsIn K mainGlobals "law" = some (some (.ref f23)))
    (l23 : K.lookup f23 = some ⟨oc23, od23, .func (PySem.W.fnOf "law" "law" (defArgs s_law) (defBody s_law) (defScope s_law) .none kV23 dc23 pm23 an23 cd23 ct23), sl23⟩)
    (c23 : PySem.W.codeIn K cd23 "law" = true)
    (k23 : PySem.W.keepIn K (.ref f23) = true)
    (z0 : PySem.W.nsIn K mainGlobals "ValueError" = some none)
    (z1 : PySem.W.nsIn K mainGlobals "abs" = some none)
    (z2 : PySem.W.nsIn K mainGlobals "bool" = some none)
    (z3 : PySem.W.nsIn K mainGlobals "enumerate" = some none)
    (z4 : PySem.W.nsIn K mainGlobals "int" = some none)
    (z5 : PySem.W.nsIn K mainGlobals "isinstance" = some none)
    (z6 : PySem.W.nsIn K mainGlobals "len" = some none)
    (z7 : PySem.W.nsIn K mainGlobals "list" = some none)
    (z8 : PySem.W.nsIn K mainGlobals "range" = some none)
    (z9 : PySem.W.nsIn K mainGlobals "str" = some none)
    (z10 : PySem.W.nsIn K mainGlobals "tuple" = some none)
    (cg0 : PySem.W.plainGet K C0 Str.empty = true)
    (ch0 : PySem.W.hasDictIn K C0 = true)
    (co0 : PySem.W.plainOver K C0 = true)
    (cs0 : PySem.W.findIn K (.ref C0) "__setattr__" = some (some (.builtin "object.__setattr__")))
    (cf0_0 : PySem.W.findIn K (.ref C0) "held" = some none)
    (cm0 : PySem.W.makesIn K C0 = true)
    (ck0 : PySem.W.keepIn K (.ref C0) = true)
    {file : Str}
    {E0 E1 E2 : Addr}
    (xa0 : PySem.W.nsIn K mainGlobals "ArmedTwice" = some (some (.ref E0)))
    (xa1 : PySem.W.nsIn K mainGlobals "NotArmed" = some (some (.ref E1)))
    (xa2 : PySem.W.nsIn K mainGlobals "OldValue" = some (some (.ref E2)))
    {R0 : Addr}
    (ra0 : PySem.W.nsIn K mainGlobals "ScreenError" = some (some (.ref R0)))
    (rb0 : PySem.W.isClsIn K R0 = true)
    (rc0 : PySem.W.typeIn K (.ref R0) = some (.type "type"))
    (rd0 : PySem.W.subIn K (.ref R0) (.type "BaseException") = some true)
    {J0 : Addr}
    {xnm0 xq0 : Str} {xN0 : Addr} {xbs0 xbm0 xsub0 : List Value} {xsn0 : List Str} {xab0 : Bool} {xcol0 : Option Bool} {xdd0 : Option Addr} {xm00 xm10 xm20 xm30 xm50 : Option Value}
    (xL0 : K.lookup E0 = some (excClassObj xnm0 xq0 E0 xN0 xbs0 xbm0 true xsn0 xsub0 xab0 xcol0 xdd0 xm00 xm10 xm20 xm30 xm50 "ValueError.__new__"))
    (xr0 : PySem.HandSPX.refsVE xbm0 = true)
    (xs0 : PySem.W.findIn K (.ref E0) "__setattr__" = some (some (.builtin "object.__setattr__")))
    (xg0 : PySem.W.findIn K (.ref E0) "__getattribute__" = some (some (.builtin "BaseException.__getattribute__")))
    (xh0 : PySem.W.findIn K (.ref E0) "__getattr__" = some none)
    (xf0 : PySem.W.findIn K (.ref E0) "owner" = some none)
    (xfb0 : PySem.W.findIn K (.ref E0) "word" = some none)
    (xi0 : PySem.W.findIn K (.ref E0) "__init__" = some (some (.ref J0)))
    (xt0 : PySem.W.typeIn K (.ref J0) = some (.type "function"))
    {xoc0 xkV0 xdc0 xpm0 xct0 xccl0 xcl0 : Value} {xod0 xan0 xcdd0 xcld0 : Option Addr} {xsl0 xccs0 xcsl0 : Array (Option Value)} {cda0 cc0 : Addr} {xvs0 : Array Value} {xtf0 : Tok}
    (xl0 : K.lookup J0 = some ⟨xoc0, xod0, .func (PySem.W.ksFn "__init__" "ArmedTwice.__init__" (defArgs s_ArmedTwice_init) (defBody s_ArmedTwice_init) (defScope s_ArmedTwice_init) .none xkV0 xdc0 xpm0 xan0 (.ref cda0) xct0 cc0), xsl0⟩)
    (xd0 : PySem.W.codeIn K (.ref cda0) "ArmedTwice.__init__" = true)
    (xe0 : K.lookup cda0 = some ⟨xccl0, xcdd0, .fields xvs0, xccs0⟩)
    (xv0 : xvs0[2]? = some (.str file xtf0))
    (xc0 : K.lookup cc0 = some ⟨xcl0, xcld0, .cell (some (.ref E0)), xcsl0⟩)
    (xk0 : PySem.W.keepIn K (.ref E0) = true)
    (xb0 : PySem.W.subIn K (.ref E0) (.type "BaseException") = some true)
    (xy0 : PySem.W.typeIn K (.ref E0) = some (.type "type"))
    (xj0 : PySem.W.hasDictIn K E0 = true)
    (xp0 : PySem.W.ks_superIn K E0 E0 "__init__" = some (some (.builtin "ValueError.__init__")))
    (xw0 : PySem.W.subIn K (.ref E0) (.type "ValueError") = some true)
    (xz0 : PySem.W.mroIn K E0 (.ref E0) = some true)
    (xo0 : PySem.W.nsIn K cStatics "thirdparty.any" = some none)
    (xu0 : PySem.W.nsIn K mainGlobals "super" = some none)
    (xca0 : PySem.W.findIn K (.ref E0) "__class__" = some (some (.builtin "object.__class__")))
    (xcb0 : PySem.W.specialIn K (.builtin "object.__class__") "__get__" = some (some (.builtin "getset_descriptor.__get__")))
    (xcc0 : PySem.W.takesIn K (.builtin "object.__class__") = some true)
    (xcd0 : PySem.W.mroIn K E0 (.type "object") = some true)
    (xn0_E1 : PySem.W.subIn K (.ref E0) (.ref E1) = some false)
    (xq0_E1 : (Value.ref E0 == Value.ref E1) = false)
    (xn0_E2 : PySem.W.subIn K (.ref E0) (.ref E2) = some false)
    (xq0_E2 : (Value.ref E0 == Value.ref E2) = false)
    (xa0_0 : PySem.W.subIn K (.ref E0) (.ref R0) = some true)
    (xb0_0 : (Value.ref E0 == Value.ref R0) = false)
    (xm0_0 : PySem.W.subIn K (.ref E0) (.ref R0) = some true)
    (xsc0 : PySem.W.isClsIn K E0 = true)
    (xss0 : PySem.W.subIn K (.ref E0) (.ref E0) = some true)
    {J1 : Addr}
    {xnm1 xq1 : Str} {xN1 : Addr} {xbs1 xbm1 xsub1 : List Value} {xsn1 : List Str} {xab1 : Bool} {xcol1 : Option Bool} {xdd1 : Option Addr} {xm01 xm11 xm21 xm31 xm51 : Option Value}
    (xL1 : K.lookup E1 = some (excClassObj xnm1 xq1 E1 xN1 xbs1 xbm1 true xsn1 xsub1 xab1 xcol1 xdd1 xm01 xm11 xm21 xm31 xm51 "ValueError.__new__"))
    (xr1 : PySem.HandSPX.refsVE xbm1 = true)
    (xs1 : PySem.W.findIn K (.ref E1) "__setattr__" = some (some (.builtin "object.__setattr__")))
    (xg1 : PySem.W.findIn K (.ref E1) "__getattribute__" = some (some (.builtin "BaseException.__getattribute__")))
    (xh1 : PySem.W.findIn K (.ref E1) "__getattr__" = some none)
    (xf1 : PySem.W.findIn K (.ref E1) "owner" = some none)
    (xfb1 : PySem.W.findIn K (.ref E1) "word" = some none)
    (xi1 : PySem.W.findIn K (.ref E1) "__init__" = some (some (.ref J1)))
    (xt1 : PySem.W.typeIn K (.ref J1) = some (.type "function"))
    {xoc1 xkV1 xdc1 xpm1 xct1 xccl1 xcl1 : Value} {xod1 xan1 xcdd1 xcld1 : Option Addr} {xsl1 xccs1 xcsl1 : Array (Option Value)} {cda1 cc1 : Addr} {xvs1 : Array Value} {xtf1 : Tok}
    (xl1 : K.lookup J1 = some ⟨xoc1, xod1, .func (PySem.W.ksFn "__init__" "NotArmed.__init__" (defArgs s_NotArmed_init) (defBody s_NotArmed_init) (defScope s_NotArmed_init) .none xkV1 xdc1 xpm1 xan1 (.ref cda1) xct1 cc1), xsl1⟩)
    (xd1 : PySem.W.codeIn K (.ref cda1) "NotArmed.__init__" = true)
    (xe1 : K.lookup cda1 = some ⟨xccl1, xcdd1, .fields xvs1, xccs1⟩)
    (xv1 : xvs1[2]? = some (.str file xtf1))
    (xc1 : K.lookup cc1 = some ⟨xcl1, xcld1, .cell (some (.ref E1)), xcsl1⟩)
    (xk1 : PySem.W.keepIn K (.ref E1) = true)
    (xb1 : PySem.W.subIn K (.ref E1) (.type "BaseException") = some true)
    (xy1 : PySem.W.typeIn K (.ref E1) = some (.type "type"))
    (xj1 : PySem.W.hasDictIn K E1 = true)
    (xp1 : PySem.W.ks_superIn K E1 E1 "__init__" = some (some (.builtin "ValueError.__init__")))
    (xw1 : PySem.W.subIn K (.ref E1) (.type "ValueError") = some true)
    (xz1 : PySem.W.mroIn K E1 (.ref E1) = some true)
    (xo1 : PySem.W.nsIn K cStatics "thirdparty.any" = some none)
    (xu1 : PySem.W.nsIn K mainGlobals "super" = some none)
    (xca1 : PySem.W.findIn K (.ref E1) "__class__" = some (some (.builtin "object.__class__")))
    (xcb1 : PySem.W.specialIn K (.builtin "object.__class__") "__get__" = some (some (.builtin "getset_descriptor.__get__")))
    (xcc1 : PySem.W.takesIn K (.builtin "object.__class__") = some true)
    (xcd1 : PySem.W.mroIn K E1 (.type "object") = some true)
    (xn1_E0 : PySem.W.subIn K (.ref E1) (.ref E0) = some false)
    (xq1_E0 : (Value.ref E1 == Value.ref E0) = false)
    (xn1_E2 : PySem.W.subIn K (.ref E1) (.ref E2) = some false)
    (xq1_E2 : (Value.ref E1 == Value.ref E2) = false)
    (xa1_0 : PySem.W.subIn K (.ref E1) (.ref R0) = some true)
    (xb1_0 : (Value.ref E1 == Value.ref R0) = false)
    (xm1_0 : PySem.W.subIn K (.ref E1) (.ref R0) = some true)
    (xsc1 : PySem.W.isClsIn K E1 = true)
    (xss1 : PySem.W.subIn K (.ref E1) (.ref E1) = some true)
    {J2 : Addr}
    {xnm2 xq2 : Str} {xN2 : Addr} {xbs2 xbm2 xsub2 : List Value} {xsn2 : List Str} {xab2 : Bool} {xcol2 : Option Bool} {xdd2 : Option Addr} {xm02 xm12 xm22 xm32 xm52 : Option Value}
    (xL2 : K.lookup E2 = some (excClassObj xnm2 xq2 E2 xN2 xbs2 xbm2 true xsn2 xsub2 xab2 xcol2 xdd2 xm02 xm12 xm22 xm32 xm52 "ValueError.__new__"))
    (xr2 : PySem.HandSPX.refsVE xbm2 = true)
    (xs2 : PySem.W.findIn K (.ref E2) "__setattr__" = some (some (.builtin "object.__setattr__")))
    (xg2 : PySem.W.findIn K (.ref E2) "__getattribute__" = some (some (.builtin "BaseException.__getattribute__")))
    (xh2 : PySem.W.findIn K (.ref E2) "__getattr__" = some none)
    (xf2 : PySem.W.findIn K (.ref E2) "owner" = some none)
    (xfb2 : PySem.W.findIn K (.ref E2) "word" = some none)
    (xi2 : PySem.W.findIn K (.ref E2) "__init__" = some (some (.ref J2)))
    (xt2 : PySem.W.typeIn K (.ref J2) = some (.type "function"))
    {xoc2 xkV2 xdc2 xpm2 xct2 xccl2 xcl2 : Value} {xod2 xan2 xcdd2 xcld2 : Option Addr} {xsl2 xccs2 xcsl2 : Array (Option Value)} {cda2 cc2 : Addr} {xvs2 : Array Value} {xtf2 : Tok}
    (xl2 : K.lookup J2 = some ⟨xoc2, xod2, .func (PySem.W.ksFn "__init__" "OldValue.__init__" (defArgs s_OldValue_init) (defBody s_OldValue_init) (defScope s_OldValue_init) .none xkV2 xdc2 xpm2 xan2 (.ref cda2) xct2 cc2), xsl2⟩)
    (xd2 : PySem.W.codeIn K (.ref cda2) "OldValue.__init__" = true)
    (xe2 : K.lookup cda2 = some ⟨xccl2, xcdd2, .fields xvs2, xccs2⟩)
    (xv2 : xvs2[2]? = some (.str file xtf2))
    (xc2 : K.lookup cc2 = some ⟨xcl2, xcld2, .cell (some (.ref E2)), xcsl2⟩)
    (xk2 : PySem.W.keepIn K (.ref E2) = true)
    (xb2 : PySem.W.subIn K (.ref E2) (.type "BaseException") = some true)
    (xy2 : PySem.W.typeIn K (.ref E2) = some (.type "type"))
    (xj2 : PySem.W.hasDictIn K E2 = true)
    (xp2 : PySem.W.ks_superIn K E2 E2 "__init__" = some (some (.builtin "ValueError.__init__")))
    (xw2 : PySem.W.subIn K (.ref E2) (.type "ValueError") = some true)
    (xz2 : PySem.W.mroIn K E2 (.ref E2) = some true)
    (xo2 : PySem.W.nsIn K cStatics "thirdparty.any" = some none)
    (xu2 : PySem.W.nsIn K mainGlobals "super" = some none)
    (xca2 : PySem.W.findIn K (.ref E2) "__class__" = some (some (.builtin "object.__class__")))
    (xcb2 : PySem.W.specialIn K (.builtin "object.__class__") "__get__" = some (some (.builtin "getset_descriptor.__get__")))
    (xcc2 : PySem.W.takesIn K (.builtin "object.__class__") = some true)
    (xcd2 : PySem.W.mroIn K E2 (.type "object") = some true)
    (xn2_E0 : PySem.W.subIn K (.ref E2) (.ref E0) = some false)
    (xq2_E0 : (Value.ref E2 == Value.ref E0) = false)
    (xn2_E1 : PySem.W.subIn K (.ref E2) (.ref E1) = some false)
    (xq2_E1 : (Value.ref E2 == Value.ref E1) = false)
    (xa2_0 : PySem.W.subIn K (.ref E2) (.ref R0) = some true)
    (xb2_0 : (Value.ref E2 == Value.ref R0) = false)
    (xm2_0 : PySem.W.subIn K (.ref E2) (.ref R0) = some true)
    (xsc2 : PySem.W.isClsIn K E2 = true)
    (xss2 : PySem.W.subIn K (.ref E2) (.ref E2) = some true)
    : ∃ T : Top K mg W, T.a_law = f23 ∧ T.x_file = file ∧ ∀ (s : Shared) (v : Value), BindsTo s T.d_law ⟨[v], []⟩ [("_law_script", v)] := by
  have F0 := fun_mk (st := s_Effects_init) l0 c0 k0
  have F1 := fun_mk (st := s_Effects_bring) l1 c1 k1
  have F2 := fun_mk (st := s_Effects_armed) l2 c2 k2
  have F3 := fun_mk (st := s_sound) l3 c3 k3
  have F4 := fun_mk (st := s_mixed) l4 c4 k4
  have F5 := fun_mk (st := s_bag) l5 c5 k5
  have F6 := fun_mk (st := s_pick) l6 c6 k6
  have F7 := fun_mk (st := s_mingled) l7 c7 k7
  have F8 := fun_mk (st := s_number) l8 c8 k8
  have F9 := fun_mk (st := s_new_name) l9 c9 k9
  have F10 := fun_mk (st := s_step) l10 c10 k10
  have F11 := fun_mk (st := s_owner) l11 c11 k11
  have F12 := fun_mk (st := s_pairs) l12 c12 k12
  have F13 := fun_mk (st := s_seen) l13 c13 k13
  have F14 := fun_mk (st := s_entries) l14 c14 k14
  have F15 := fun_mk (st := s_same) l15 c15 k15
  have F16 := fun_mk (st := s_rows) l16 c16 k16
  have F17 := fun_mk (st := s_walk) l17 c17 k17
  have F18 := fun_mk (st := s_outcome) l18 c18 k18
  have F19 := fun_mk (st := s_by_base) l19 c19 k19
  have F20 := fun_mk (st := s_judged) l20 c20 k20
  have F21 := fun_mk (st := s_free) l21 c21 k21
  have F22 := fun_mk (st := s_changed) l22 c22 k22
  have F23 := fun_mk (st := s_law) l23 c23 k23
  exact ⟨⟨PySem.W.mg_none_of X G z0,
    PySem.W.mg_none_of X G z1,
    PySem.W.mg_none_of X G z2,
    PySem.W.mg_none_of X G z3,
    PySem.W.mg_none_of X G z4,
    PySem.W.mg_none_of X G z5,
    PySem.W.mg_none_of X G z6,
    PySem.W.mg_none_of X G z7,
    PySem.W.mg_none_of X G z8,
    PySem.W.mg_none_of X G z9,
    PySem.W.mg_none_of X G z10,
    f0,
    _,
    F0,
    F0.binds (ps := ["self"]) (fun _ _ _ _ _ _ us hl => match us, hl with | [_], _ => rfl),
    f1,
    _,
    F1,
    F1.binds (ps := ["self", "entries"]) (fun _ _ _ _ _ _ us hl => match us, hl with | [_, _], _ => rfl),
    f2,
    _,
    F2,
    F2.binds (ps := ["self"]) (fun _ _ _ _ _ _ us hl => match us, hl with | [_], _ => rfl),
    f3,
    _,
    F3,
    F3.binds (ps := ["log"]) (fun _ _ _ _ _ _ us hl => match us, hl with | [_], _ => rfl),
    PySem.W.mg_of X G a3,
    f4,
    _,
    F4,
    F4.binds (ps := ["_law_number_here", "_law_turn"]) (fun _ _ _ _ _ _ us hl => match us, hl with | [_, _], _ => rfl),
    PySem.W.mg_of X G a4,
    f5,
    _,
    F5,
    F5.binds (ps := ["_law_script"]) (fun _ _ _ _ _ _ us hl => match us, hl with | [_], _ => rfl),
    PySem.W.mg_of X G a5,
    f6,
    _,
    F6,
    F6.binds (ps := ["_law_bag_here", "_law_many"]) (fun _ _ _ _ _ _ us hl => match us, hl with | [_, _], _ => rfl),
    PySem.W.mg_of X G a6,
    f7,
    _,
    F7,
    F7.binds (ps := ["_law_bag_here", "_law_things"]) (fun _ _ _ _ _ _ us hl => match us, hl with | [_, _], _ => rfl),
    PySem.W.mg_of X G a7,
    f8,
    _,
    F8,
    F8.binds (ps := ["_law_thing"]) (fun _ _ _ _ _ _ us hl => match us, hl with | [_], _ => rfl),
    PySem.W.mg_of X G a8,
    f9,
    _,
    F9,
    F9.binds (ps := ["_law_bag_here", "_law_used"]) (fun _ _ _ _ _ _ us hl => match us, hl with | [_, _], _ => rfl),
    PySem.W.mg_of X G a9,
    f10,
    _,
    F10,
    F10.binds (ps := ["_law_bag_here"]) (fun _ _ _ _ _ _ us hl => match us, hl with | [_], _ => rfl),
    PySem.W.mg_of X G a10,
    f11,
    _,
    F11,
    F11.binds (ps := ["_law_bag_here", "_law_owners"]) (fun _ _ _ _ _ _ us hl => match us, hl with | [_, _], _ => rfl),
    PySem.W.mg_of X G a11,
    f12,
    _,
    F12,
    F12.binds (ps := ["_law_bag_here", "_law_most"]) (fun _ _ _ _ _ _ us hl => match us, hl with | [_, _], _ => rfl),
    PySem.W.mg_of X G a12,
    f13,
    _,
    F13,
    F13.binds (ps := ["_law_bag_here", "_law_seen_here"]) (fun _ _ _ _ _ _ us hl => match us, hl with | [_, _], _ => rfl),
    PySem.W.mg_of X G a13,
    f14,
    _,
    F14,
    F14.binds (ps := ["_law_bag_here", "_law_pairs_here", "_law_before"]) (fun _ _ _ _ _ _ us hl => match us, hl with | [_, _, _], _ => rfl),
    PySem.W.mg_of X G a14,
    f15,
    _,
    F15,
    F15.binds (ps := ["_law_told", "_law_due"]) (fun _ _ _ _ _ _ us hl => match us, hl with | [_, _], _ => rfl),
    PySem.W.mg_of X G a15,
    f16,
    _,
    F16,
    F16.binds (ps := ["_law_log"]) (fun _ _ _ _ _ _ us hl => match us, hl with | [_], _ => rfl),
    PySem.W.mg_of X G a16,
    f17,
    _,
    F17,
    F17.binds (ps := ["_law_log"]) (fun _ _ _ _ _ _ us hl => match us, hl with | [_], _ => rfl),
    PySem.W.mg_of X G a17,
    f18,
    _,
    F18,
    F18.binds (ps := ["_law_log"]) (fun _ _ _ _ _ _ us hl => match us, hl with | [_], _ => rfl),
    PySem.W.mg_of X G a18,
    f19,
    _,
    F19,
    F19.binds (ps := ["_law_log"]) (fun _ _ _ _ _ _ us hl => match us, hl with | [_], _ => rfl),
    PySem.W.mg_of X G a19,
    f20,
    _,
    F20,
    F20.binds (ps := ["_law_log"]) (fun _ _ _ _ _ _ us hl => match us, hl with | [_], _ => rfl),
    PySem.W.mg_of X G a20,
    f21,
    _,
    F21,
    F21.binds (ps := ["_law_bag_here", "_law_pairs_here"]) (fun _ _ _ _ _ _ us hl => match us, hl with | [_, _], _ => rfl),
    PySem.W.mg_of X G a21,
    f22,
    _,
    F22,
    F22.binds (ps := ["_law_bag_here", "_law_log", "_law_pairs_here"]) (fun _ _ _ _ _ _ us hl => match us, hl with | [_, _, _], _ => rfl),
    PySem.W.mg_of X G a22,
    f23,
    _,
    F23,
    F23.binds (ps := ["_law_script"]) (fun _ _ _ _ _ _ us hl => match us, hl with | [_], _ => rfl),
    PySem.W.mg_of X G a23,
    C0,
    PySem.W.mg_of X G ca0,
    ⟨cg0, ch0, co0, cs0⟩,
    cf0_0,
    ⟨cm0, a0, i0, ck0⟩,
    ⟨a1, i1, k1⟩,
    ⟨a2, i2, k2⟩,
    file,
    R0,
    PySem.W.mg_of X G ra0,
    E0,
    J0,
    PySem.W.mg_of X G xa0,
    fun P pf => { gC := PySem.W.mg_of X G xa0, cls := ⟨_, _, _, _, _, _, _, _, _, _, _, _, _, _, _, xL0, xr0⟩, sa := xs0, ga := xg0, gg := xh0, no1 := xf0, no2 := xfb0, iC := xi0, tC := xt0, kC := xk0, exC := xb0, tyC := xy0, hdC := xj0, fn := ⟨_, _, _, _, _, _, _, _, _, _, _, ⟨9, 17, 9, 21⟩, ⟨9, 23, 9, 28⟩, ⟨9, 30, 9, 34⟩, ⟨⟨10, 8, 10, 13⟩, ⟨10, 8, 10, 15⟩, ⟨10, 8, 10, 24⟩, ⟨10, 27, 10, 40⟩, ⟨10, 41, 10, 46⟩, ⟨10, 40, 10, 49⟩, ⟨10, 49, 10, 50⟩, ⟨10, 51, 10, 55⟩, ⟨10, 50, 10, 58⟩, ⟨10, 25, 10, 59⟩, ⟨10, 8, 10, 60⟩, ⟨10, 8, 10, 60⟩, ⟨11, 8, 11, 12⟩, ⟨11, 8, 11, 18⟩, ⟨11, 21, 11, 26⟩, ⟨11, 8, 11, 26⟩, ⟨12, 8, 12, 12⟩, ⟨12, 8, 12, 17⟩, ⟨12, 20, 12, 24⟩, ⟨12, 8, 12, 24⟩⟩, _, _, _, _, _, _, _, _, _, xl0, xd0, xe0, xv0, pf.1, xc0, ⟨_, fun _ => rfl⟩, fun _ _ _ => rfl⟩, sup := xp0, subV := xw0, mroS := xz0, opq := xo0, htop := pf.2, hsup := PySem.W.mg_none_of X G xu0, ml := by decide +kernel },
    ⟨xg0, xh0, xb0, xj0, xca0, xcb0, xcc0, xcd0⟩,
    ⟨xg0, xh0, xb0, xj0⟩,
    kit_of xb0_0 rb0 rc0 xa0_0,
    kit_ty_of (by decide +kernel) xw0,
    exm_of rd0 rb0 rc0 xm0_0,
    exm_of xb0 xsc0 xy0 xss0,
    E1,
    J1,
    PySem.W.mg_of X G xa1,
    fun P pf => { gC := PySem.W.mg_of X G xa1, cls := ⟨_, _, _, _, _, _, _, _, _, _, _, _, _, _, _, xL1, xr1⟩, sa := xs1, ga := xg1, gg := xh1, no1 := xf1, no2 := xfb1, iC := xi1, tC := xt1, kC := xk1, exC := xb1, tyC := xy1, hdC := xj1, fn := ⟨_, _, _, _, _, _, _, _, _, _, _, ⟨15, 17, 15, 21⟩, ⟨15, 23, 15, 28⟩, ⟨15, 30, 15, 34⟩, ⟨⟨16, 8, 16, 13⟩, ⟨16, 8, 16, 15⟩, ⟨16, 8, 16, 24⟩, ⟨16, 27, 16, 38⟩, ⟨16, 39, 16, 44⟩, ⟨16, 38, 16, 47⟩, ⟨16, 47, 16, 48⟩, ⟨16, 49, 16, 53⟩, ⟨16, 48, 16, 56⟩, ⟨16, 25, 16, 57⟩, ⟨16, 8, 16, 58⟩, ⟨16, 8, 16, 58⟩, ⟨17, 8, 17, 12⟩, ⟨17, 8, 17, 18⟩, ⟨17, 21, 17, 26⟩, ⟨17, 8, 17, 26⟩, ⟨18, 8, 18, 12⟩, ⟨18, 8, 18, 17⟩, ⟨18, 20, 18, 24⟩, ⟨18, 8, 18, 24⟩⟩, _, _, _, _, _, _, _, _, _, xl1, xd1, xe1, xv1, pf.1, xc1, ⟨_, fun _ => rfl⟩, fun _ _ _ => rfl⟩, sup := xp1, subV := xw1, mroS := xz1, opq := xo1, htop := pf.2, hsup := PySem.W.mg_none_of X G xu1, ml := by decide +kernel },
    ⟨xg1, xh1, xb1, xj1, xca1, xcb1, xcc1, xcd1⟩,
    ⟨xg1, xh1, xb1, xj1⟩,
    kit_of xb1_0 rb0 rc0 xa1_0,
    kit_ty_of (by decide +kernel) xw1,
    exm_of rd0 rb0 rc0 xm1_0,
    exm_of xb1 xsc1 xy1 xss1,
    E2,
    J2,
    PySem.W.mg_of X G xa2,
    fun P pf => { gC := PySem.W.mg_of X G xa2, cls := ⟨_, _, _, _, _, _, _, _, _, _, _, _, _, _, _, xL2, xr2⟩, sa := xs2, ga := xg2, gg := xh2, no1 := xf2, no2 := xfb2, iC := xi2, tC := xt2, kC := xk2, exC := xb2, tyC := xy2, hdC := xj2, fn := ⟨_, _, _, _, _, _, _, _, _, _, _, ⟨21, 17, 21, 21⟩, ⟨21, 23, 21, 28⟩, ⟨21, 30, 21, 34⟩, ⟨⟨22, 8, 22, 13⟩, ⟨22, 8, 22, 15⟩, ⟨22, 8, 22, 24⟩, ⟨22, 27, 22, 55⟩, ⟨22, 56, 22, 61⟩, ⟨22, 55, 22, 64⟩, ⟨22, 64, 22, 65⟩, ⟨22, 66, 22, 70⟩, ⟨22, 65, 22, 73⟩, ⟨22, 25, 22, 74⟩, ⟨22, 8, 22, 75⟩, ⟨22, 8, 22, 75⟩, ⟨23, 8, 23, 12⟩, ⟨23, 8, 23, 18⟩, ⟨23, 21, 23, 26⟩, ⟨23, 8, 23, 26⟩, ⟨24, 8, 24, 12⟩, ⟨24, 8, 24, 17⟩, ⟨24, 20, 24, 24⟩, ⟨24, 8, 24, 24⟩⟩, _, _, _, _, _, _, _, _, _, xl2, xd2, xe2, xv2, pf.1, xc2, ⟨_, fun _ => rfl⟩, fun _ _ _ => rfl⟩, sup := xp2, subV := xw2, mroS := xz2, opq := xo2, htop := pf.2, hsup := PySem.W.mg_none_of X G xu2, ml := by decide +kernel },
    ⟨xg2, xh2, xb2, xj2, xca2, xcb2, xcc2, xcd2⟩,
    ⟨xg2, xh2, xb2, xj2⟩,
    kit_of xb2_0 rb0 rc0 xa2_0,
    kit_ty_of (by decide +kernel) xw2,
    exm_of rd0 rb0 rc0 xm2_0,
    exm_of xb2 xsc2 xy2 xss2,
    kit_of xq0_E1 xsc1 xy1 xn0_E1,
    kit_of xq0_E2 xsc2 xy2 xn0_E2,
    kit_of xq1_E0 xsc0 xy0 xn1_E0,
    exm_of xb0 xsc0 xy0 xn1_E0,
    kit_of xq1_E2 xsc2 xy2 xn1_E2,
    kit_of xq2_E0 xsc0 xy0 xn2_E0,
    exm_of xb0 xsc0 xy0 xn2_E0,
    kit_of xq2_E1 xsc1 xy1 xn2_E1,
    exm_of xb1 xsc1 xy1 xn2_E1⟩, rfl, rfl, fun s v => .of_eq rfl⟩
end K41
set_option Elab.async false
set_option linter.all false
set_option maxRecDepth 100000
set_option maxHeartbeats 4000000
namespace K41
open PySem PySem.Spec PyProof.Rows L2 XL
end K41
open PySem PySem.W PyProof.Rows
set_option maxHeartbeats 0 in
theorem PySem.Challenge.cw_drawnanew_k41_whole_once_holds : PySem.Challenge.rw_drawnanew_k41_whole_once.Holds := by
  w_on; o_law; k_head; (case hw => w_witness2)
  k_fill
  refine L2.walk_of (l := PySem.Challenge.rw_drawnanew_k41_whole_once) (n := 63) (k := 60) (x := "_law_script") (CX := fun _ => L2.CX0) (sp := fun w => K41.spLaw _) rfl (by decide) rfl ⟨rfl, by decide, by decide⟩ (fun w h Y => PySem.W.kIn_of Y) ?F (fun _ _ a ns hl _ hS => ⟨a, ns, rfl, hS, hl, fun _ => rfl⟩) (fun _ _ _ _ _ h => h)
  case F =>
    intro w mg fa h KX G hmg
    refine' K41.law_end KX G hmg (K41.top_mk (W := w) KX G ?ca0 ?a0 ?i0 ?l0 ?c0 ?k0 ?a1 ?i1 ?l1 ?c1 ?k1 ?a2 ?i2 ?l2 ?c2 ?k2 ?a3 ?l3 ?c3 ?k3 ?a4 ?l4 ?c4 ?k4 ?a5 ?l5 ?c5 ?k5 ?a6 ?l6 ?c6 ?k6 ?a7 ?l7 ?c7 ?k7 ?a8 ?l8 ?c8 ?k8 ?a9 ?l9 ?c9 ?k9 ?a10 ?l10 ?c10 ?k10 ?a11 ?l11 ?c11 ?k11 ?a12 ?l12 ?c12 ?k12 ?a13 ?l13 ?c13 ?k13 ?a14 ?l14 ?c14 ?k14 ?a15 ?l15 ?c15 ?k15 ?a16 ?l16 ?c16 ?k16 ?a17 ?l17 ?c17 ?k17 ?a18 ?l18 ?c18 ?k18 ?a19 ?l19 ?c19 ?k19 ?a20 ?l20 ?c20 ?k20 ?a21 ?l21 ?c21 ?k21 ?a22 ?l22 ?c22 ?k22 ?a23 ?l23 ?c23 ?k23 ?z0 ?z1 ?z2 ?z3 ?z4 ?z5 ?z6 ?z7 ?z8 ?z9 ?z10 ?cg0 ?ch0 ?co0 ?cs0 ?cf0_0 ?cm0 ?ck0 ?xa0 ?xa1 ?xa2 ?ra0 ?rb0 ?rc0 ?rd0 ?xL0 ?xr0 ?xs0 ?xg0 ?xh0 ?xf0 ?xfb0 ?xi0 ?xt0 ?xl0 ?xd0 ?xe0 ?xv0 ?xc0 ?xk0 ?xb0 ?xy0 ?xj0 ?xp0 ?xw0 ?xz0 ?xo0 ?xu0 ?xca0 ?xcb0 ?xcc0 ?xcd0 ?xn0_E1 ?xq0_E1 ?xn0_E2 ?xq0_E2 ?xa0_0 ?xb0_0 ?xm0_0 ?xsc0 ?xss0 ?xL1 ?xr1 ?xs1 ?xg1 ?xh1 ?xf1 ?xfb1 ?xi1 ?xt1 ?xl1 ?xd1 ?xe1 ?xv1 ?xc1 ?xk1 ?xb1 ?xy1 ?xj1 ?xp1 ?xw1 ?xz1 ?xo1 ?xu1 ?xca1 ?xcb1 ?xcc1 ?xcd1 ?xn1_E0 ?xq1_E0 ?xn1_E2 ?xq1_E2 ?xa1_0 ?xb1_0 ?xm1_0 ?xsc1 ?xss1 ?xL2 ?xr2 ?xs2 ?xg2 ?xh2 ?xf2 ?xfb2 ?xi2 ?xt2 ?xl2 ?xd2 ?xe2 ?xv2 ?xc2 ?xk2 ?xb2 ?xy2 ?xj2 ?xp2 ?xw2 ?xz2 ?xo2 ?xu2 ?xca2 ?xcb2 ?xcc2 ?xcd2 ?xn2_E0 ?xq2_E0 ?xn2_E1 ?xq2_E1 ?xa2_0 ?xb2_0 ?xm2_0 ?xsc2 ?xss2) ?pf
    (case ca0 => k_is)
    (case a0 => k_is)
    (case i0 => k_is)
    (case l0 => k_is)
    (case c0 => k_is)
    (case k0 => k_is)
    (case a1 => k_is)
    (case i1 => k_is)
    (case l1 => k_is)
    (case c1 => k_is)
    (case k1 => k_is)
    (case a2 => k_is)
    (case i2 => k_is)
    (case l2 => k_is)
    (case c2 => k_is)
    (case k2 => k_is)
    (case a3 => k_is)
    (case l3 => k_is)
    (case c3 => k_is)
    (case k3 => k_is)
    (case a4 => k_is)
    (case l4 => k_is)
    (case c4 => k_is)
    (case k4 => k_is)
    (case a5 => k_is)
    (case l5 => k_is)
    (case c5 => k_is)
    (case k5 => k_is)
    (case a6 => k_is)
    (case l6 => k_is)
    (case c6 => k_is)
    (case k6 => k_is)
    (case a7 => k_is)
    (case l7 => k_is)
    (case c7 => k_is)
    (case k7 => k_is)
    (case a8 => k_is)
    (case l8 => k_is)
    (case c8 => k_is)
    (case k8 => k_is)
    (case a9 => k_is)
    (case l9 => k_is)
    (case c9 => k_is)
    (case k9 => k_is)
    (case a10 => k_is)
    (case l10 => k_is)
    (case c10 => k_is)
    (case k10 => k_is)
    (case a11 => k_is)
    (case l11 => k_is)
    (case c11 => k_is)
    (case k11 => k_is)
    (case a12 => k_is)
    (case l12 => k_is)
    (case c12 => k_is)
    (case k12 => k_is)
    (case a13 => k_is)
    (case l13 => k_is)
    (case c13 => k_is)
    (case k13 => k_is)
    (case a14 => k_is)
    (case l14 => k_is)
    (case c14 => k_is)
    (case k14 => k_is)
    (case a15 => k_is)
    (case l15 => k_is)
    (case c15 => k_is)
    (case k15 => k_is)
    (case a16 => k_is)
    (case l16 => k_is)
    (case c16 => k_is)
    (case k16 => k_is)
    (case a17 => k_is)
    (case l17 => k_is)
    (case c17 => k_is)
    (case k17 => k_is)
    (case a18 => k_is)
    (case l18 => k_is)
    (case c18 => k_is)
    (case k18 => k_is)
    (case a19 => k_is)
    (case l19 => k_is)
    (case c19 => k_is)
    (case k19 => k_is)
    (case a20 => k_is)
    (case l20 => k_is)
    (case c20 => k_is)
    (case k20 => k_is)
    (case a21 => k_is)
    (case l21 => k_is)
    (case c21 => k_is)
    (case k21 => k_is)
    (case a22 => k_is)
    (case l22 => k_is)
    (case c22 => k_is)
    (case k22 => k_is)
    (case a23 => k_is)
    (case l23 => k_is)
    (case c23 => k_is)
    (case k23 => k_is)
    (case z0 => k_is)
    (case z1 => k_is)
    (case z2 => k_is)
    (case z3 => k_is)
    (case z4 => k_is)
    (case z5 => k_is)
    (case z6 => k_is)
    (case z7 => k_is)
    (case z8 => k_is)
    (case z9 => k_is)
    (case z10 => k_is)
    (case cg0 => k_is)
    (case ch0 => k_is)
    (case co0 => k_is)
    (case cs0 => k_is)
    (case cf0_0 => k_is)
    (case cm0 => k_is)
    (case ck0 => k_is)
    (case xa0 => k_is)
    (case xa1 => k_is)
    (case xa2 => k_is)
    (case ra0 => k_is)
    (case rb0 => k_is)
    (case rc0 => k_is)
    (case rd0 => k_is)
    (case xL0 => k_is)
    (case xr0 => first | rfl | decide +kernel)
    (case xs0 => k_is)
    (case xg0 => k_is)
    (case xh0 => k_is)
    (case xf0 => k_is)
    (case xfb0 => k_is)
    (case xi0 => k_is)
    (case xt0 => k_is)
    (case xl0 => k_is)
    (case xd0 => k_is)
    (case xe0 => k_is)
    (case xv0 => rfl)
    (case xc0 => k_is)
    (case xk0 => k_is)
    (case xb0 => k_is)
    (case xy0 => k_is)
    (case xj0 => k_is)
    (case xp0 => ks_is)
    (case xw0 => k_is)
    (case xz0 => k_is)
    (case xo0 => k_is)
    (case xu0 => k_is)
    (case xca0 => k_is)
    (case xcb0 => k_is)
    (case xcc0 => k_is)
    (case xcd0 => k_is)
    (case xn0_E1 => k_is)
    (case xq0_E1 => rfl)
    (case xn0_E2 => k_is)
    (case xq0_E2 => rfl)
    (case xa0_0 => k_is)
    (case xb0_0 => rfl)
    (case xm0_0 => k_is)
    (case xsc0 => k_is)
    (case xss0 => k_is)
    (case xL1 => k_is)
    (case xr1 => first | rfl | decide +kernel)
    (case xs1 => k_is)
    (case xg1 => k_is)
    (case xh1 => k_is)
    (case xf1 => k_is)
    (case xfb1 => k_is)
    (case xi1 => k_is)
    (case xt1 => k_is)
    (case xl1 => k_is)
    (case xd1 => k_is)
    (case xe1 => k_is)
    (case xv1 => rfl)
    (case xc1 => k_is)
    (case xk1 => k_is)
    (case xb1 => k_is)
    (case xy1 => k_is)
    (case xj1 => k_is)
    (case xp1 => ks_is)
    (case xw1 => k_is)
    (case xz1 => k_is)
    (case xo1 => k_is)
    (case xu1 => k_is)
    (case xca1 => k_is)
    (case xcb1 => k_is)
    (case xcc1 => k_is)
    (case xcd1 => k_is)
    (case xn1_E0 => k_is)
    (case xq1_E0 => rfl)
    (case xn1_E2 => k_is)
    (case xq1_E2 => rfl)
    (case xa1_0 => k_is)
    (case xb1_0 => rfl)
    (case xm1_0 => k_is)
    (case xsc1 => k_is)
    (case xss1 => k_is)
    (case xL2 => k_is)
    (case xr2 => first | rfl | decide +kernel)
    (case xs2 => k_is)
    (case xg2 => k_is)
    (case xh2 => k_is)
    (case xf2 => k_is)
    (case xfb2 => k_is)
    (case xi2 => k_is)
    (case xt2 => k_is)
    (case xl2 => k_is)
    (case xd2 => k_is)
    (case xe2 => k_is)
    (case xv2 => rfl)
    (case xc2 => k_is)
    (case xk2 => k_is)
    (case xb2 => k_is)
    (case xy2 => k_is)
    (case xj2 => k_is)
    (case xp2 => ks_is)
    (case xw2 => k_is)
    (case xz2 => k_is)
    (case xo2 => k_is)
    (case xu2 => k_is)
    (case xca2 => k_is)
    (case xcb2 => k_is)
    (case xcc2 => k_is)
    (case xcd2 => k_is)
    (case xn2_E0 => k_is)
    (case xq2_E0 => rfl)
    (case xn2_E1 => k_is)
    (case xq2_E1 => rfl)
    (case xa2_0 => k_is)
    (case xb2_0 => rfl)
    (case xm2_0 => k_is)
    (case xsc2 => k_is)
    (case xss2 => k_is)
    (case pf => exact ⟨by first | rfl | decide +kernel, by first | rfl | decide +kernel⟩)
