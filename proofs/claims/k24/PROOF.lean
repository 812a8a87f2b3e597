import PyProof.Rows.All
import Wide.All
import OpenK.AllK
import Wide.FinOn
import HandS.Base
import HandS.Call
import HandS.List
import HandS.Comp
import HandS.Ends
import HandS.Dict
import HandS.Iter
import HandS.Text
import HandS.Words
import HandS.WordsList
import HandS.Defaults
import HandS.IsInst
import HandS.TupAny
import HandS.TupMul
import HandS.Deep
import HandS.HeadHook1
import HandS.HeadHook2
import HandS.Walk
import HandS.Zip
import HandS.Style
import HandS.Exc
import HandS.ExcInit
import HandS.ExcIs
import HandS.ExcField
import HandS.ExcOwn
import HandS.WordsExc
import KE.KLam
import HandS.Codes
import HandS.TryOnly
import HandS.Lambda
import HandS.HeadHook4
import HandS.HeadWalk
import KE.KStateDown
import HandS.Head0
import HandS.Head1
import HandS.Head2
import HandS.HeadEnd
import PySem.Challenge.RW_givesway_k24_points_lines_and_speeds
set_option Elab.async false
set_option linter.all false
set_option maxRecDepth 100000
set_option maxHeartbeats 4000000
namespace GW
open PySem PyProof.Rows L2

/-! ### readings that compute -/
def mVar (i : Nat) : TE := fun σ H Q => match σ[i]? with
  | some (some v) => Q v H
  | _ => False
section
variable {X : Cx} {a b c : Expr} {ta tb tc : TE} {pos : Pos}
theorem imE {e : Expr} {t t' : TE} (h : PE X e t) (i : ∀ σ H Q, t' σ H Q → t σ H Q) : PE X e t' :=
  ⟨fun pins s σ H Q I hw => h.run pins s σ H Q I (i σ H Q hw)⟩
theorem imO {f : Value → Value → Sem Value} {r r' : R2} (h : OpR X f r) (i : ∀ x y H Q, r' x y H Q → r x y H Q) : OpR X f r' :=
  fun pins s σ H x y v u Q I rx ry q => h pins s σ H x y v u Q I rx ry (i x y H Q q)
theorem imC {f : Value} {r r' : List V → Hp → VK → Prop} (h : CallR X f r) (i : ∀ xs H Q, r' xs H Q → r xs H Q) : CallR X f r' :=
  fun pins s σ H xs us Q I rs q => h pins s σ H xs us Q I rs (i xs H Q q)
theorem uv (i : Nat) {x : Str} (hN : X.N[i]? = some x := by rfl)
    (hv : Vis X.env.scope x := by first | exact Or.inl rfl | exact Or.inr (Or.inl rfl) | exact Or.inr (Or.inr rfl))
    (hd : (x == ("__debug__" : Str)) = false := by decide) (hcd : (x == ("__classdict__" : Str)) = false := by decide) :
    PE X (.Name x pos) (mVar i) := by
  refine imE (pv i hN hv hd hcd) fun σ H Q h => ?_
  unfold mVar at h
  cases e : σ[i]? with
  | none => rw [e] at h; exact h.elim
  | some o =>
    rw [e] at h
    cases o with
    | none => exact h.elim
    | some v => exact ⟨v, e, h⟩
/-! ### truth values -/
/-- what is wanted of a truth -/
def bQ (Q : Bool → Hp → Prop) : VK := fun x H => match x with
  | .bl k => Q k H
  | _ => False
def mTest (t : TE) : TT := fun σ H Q => t σ H (bQ Q)
theorem bQ_bl {Q : Bool → Hp → Prop} {x : V} {H : Hp} (h : bQ Q x H) : ∃ k, x = .bl k ∧ Q k H := by
  cases x <;> first | exact ⟨_, rfl, h⟩ | exact h.elim
/-- a value that is a truth, as a test -/
theorem ut {e : Expr} {t : TE} (h : PE X e t) (he : ∀ whole, isTrue e X.env whole = (do let v ← whole; standAt e.pos; holding [v] (truthy v)) := by intro _; rfl) : PT X e (mTest t) := by
  refine ⟨fun pins s σ H Q I hw => isTrue_plain (thn (h.run pins s σ H _ I hw) fun v s1 q => ?_) (he _)⟩
  obtain ⟨x, H1, I1, r1, q1⟩ := q
  obtain ⟨k, rfl, q2⟩ := bQ_bl q1
  cases r1
  exact wpAny_truthy_bool ⟨H1, I1, q2⟩
/-- a comparison as a test -/
theorem utc {op : CmpOp} {r : R2} (ho : OpR X (compareOp op) r) (ha : PE X a ta) (hb : PE X b tb) (hm : behindInMarks op b = false) :
    PT X (.Compare a [op] [b] pos) (mTest (tOp r ta tb)) := by
  refine ⟨fun pins s σ H Q I h => ?_⟩
  refine wpAny_isTrue_Compare1 (thn (ha.run pins s σ H _ I h) fun v s1 z => ?_) hm
  obtain ⟨x, H1, I1, r1, q1⟩ := z
  refine thn (hb.run pins s1 σ H1 _ I1 q1) fun u s2 z2 => ?_
  obtain ⟨y, H2, I2, r2, q2⟩ := z2
  refine thn (ho pins s2 σ H2 x y v u _ I2 r1 r2 q2) fun c s3 z3 => ?_
  obtain ⟨z, H3, I3, r3, q3⟩ := z3
  obtain ⟨k, rfl, q4⟩ := bQ_bl q3
  cases r3
  exact wpAny_truthy_bool ⟨H3, I3, q4⟩
def mAnd (ta tb : TE) : TE := fun σ H Q => ta σ H fun x H1 => match x with
  | .bl c => if c = true then tb σ H1 Q else Q (.bl false) H1
  | _ => False
def mOr (ta tb : TE) : TE := fun σ H Q => ta σ H fun x H1 => match x with
  | .bl c => if c = true then Q (.bl true) H1 else tb σ H1 Q
  | _ => False
def mNot (ta : TE) : TE := fun σ H Q => ta σ H fun x H1 => match x with
  | .bl c => Q (.bl (!c)) H1
  | _ => False
variable {rest : List Expr}
theorem ue_and (ha : PE X a ta) (hb : PE X (.BoolOp .And (b :: rest) pos) tb) : PE X (.BoolOp .And (a :: b :: rest) pos) (mAnd ta tb) := by
  refine ⟨fun pins s σ H Q I h => BoolOp_and (thn (ha.run pins s σ H _ I h) fun v s1 z => ?_)⟩
  obtain ⟨x, H1, I1, r1, q1⟩ := z
  cases x with
  | bl c =>
    cases r1
    refine wpAny_truthy_bool ?_
    cases c with
    | true => exact hb.run pins s1 σ H1 Q I1 q1
    | false => exact ⟨.bl false, H1, I1, rfl, q1⟩
  | _ => exact False.elim q1
theorem ue_or (ha : PE X a ta) (hb : PE X (.BoolOp .Or (b :: rest) pos) tb) : PE X (.BoolOp .Or (a :: b :: rest) pos) (mOr ta tb) := by
  refine ⟨fun pins s σ H Q I h => BoolOp_or (thn (ha.run pins s σ H _ I h) fun v s1 z => ?_)⟩
  obtain ⟨x, H1, I1, r1, q1⟩ := z
  cases x with
  | bl c =>
    cases r1
    refine wpAny_truthy_bool ?_
    cases c with
    | false => exact hb.run pins s1 σ H1 Q I1 q1
    | true => exact ⟨.bl true, H1, I1, rfl, q1⟩
  | _ => exact False.elim q1
theorem ue_not (ha : PE X a ta) : PE X (.UnaryOp .Not a pos) (mNot ta) := by
  refine ⟨fun pins s σ H Q I h => UnaryOp_ (thn (ha.run pins s σ H _ I h) fun v s1 z => ?_)⟩
  obtain ⟨x, H1, I1, r1, q1⟩ := z
  cases x with
  | bl c =>
    cases r1
    exact not_of (wpAny_truthy_bool ⟨.bl (!c), H1, I1, rfl, q1⟩)
  | _ => exact False.elim q1
def mChain (r r' : R2) (ta tb tc : TE) : TE := fun σ H Q => ta σ H fun x H1 => tb σ H1 fun y H2 => r x y H2 fun z H3 => match z with
  | .bl k => if k = true then tc σ H3 fun w' H4 => r' y w' H4 Q else Q (.bl false) H3
  | _ => False
theorem ue_chain {op op' : CmpOp} {r r' : R2} (ho : OpR X (compareOp op) r) (ho' : OpR X (compareOp op') r') (ha : PE X a ta) (hb : PE X b tb) (hc : PE X c tc)
    (hm : lastMarks [op, op'] [b, c] = false := by with_unfolding_all rfl) : PE X (.Compare a [op, op'] [b, c] pos) (mChain r r' ta tb tc) := by
  refine ⟨fun pins s σ H Q I h => ?_⟩
  refine Compare_chain (thn (ha.run pins s σ H _ I h) fun v s1 z => ?_) hm
  obtain ⟨x, H1, I1, r1, q1⟩ := z
  refine chain_link (thn (hb.run pins s1 σ H1 _ I1 q1) fun u s2 z2 => ?_)
  obtain ⟨y, H2, I2, r2, q2⟩ := z2
  refine thn (ho pins s2 σ H2 x y v u _ I2 r1 r2 q2) fun d s3 z3 => ?_
  obtain ⟨z, H3, I3, r3, q3⟩ := z3
  cases z with
  | bl k =>
    cases r3
    refine wpAny_truthy_bool ?_
    cases k with
    | false => exact ite_ff ⟨.bl false, H3, I3, rfl, q3⟩
    | true =>
      refine ite_tt (chain_last (thn (hc.run pins s3 σ H3 _ I3 q3) fun w' s4 z4 => ?_))
      obtain ⟨z', H4, I4, r4, q4⟩ := z4
      exact ho' pins s4 σ H4 y z' u w' Q I4 r2 r4 q4
  | _ => exact False.elim q3

/-! ### operators by values -/
def oAdd (K : PySem.W.Frag) : R2 := fun x y H Q => match x, y with
  | .int i, .int j => Q (.int (i + j)) H
  | .str i, .str j => i.length + j.length ≤ sizeLine ∧ Q (.str (i ++ j)) H
  | .ref i, .ref j => rCat (.ref i) (.ref j) H Q
  | _, _ => False
theorem uo_add : OpR X (binaryOp .Add) (oAdd X.K) := by
  intro pins s σ H x y v u Q I rx ry h
  cases x <;> cases y <;> first
    | exact False.elim h
    | exact op_add pins s σ H _ _ v u Q I rx ry ⟨_, _, rfl, rfl, h⟩
    | exact op_add_str pins s σ H _ _ v u Q I rx ry ⟨_, _, rfl, rfl, h⟩
    | exact op_cat pins s σ H _ _ v u Q I rx ry h
def oSub : R2 := fun x y H Q => match x, y with
  | .int i, .int j => Q (.int (i - j)) H
  | _, _ => False
theorem uo_sub : OpR X (binaryOp .Sub) oSub := by
  intro pins s σ H x y v u Q I rx ry h
  cases x <;> cases y <;> first
    | exact False.elim h
    | exact op_sub pins s σ H _ _ v u Q I rx ry ⟨_, _, rfl, rfl, h⟩
def oMul (K : PySem.W.Frag) : R2 := fun x y H Q => match x, y with
  | .int i, .int j => CMul i j ∧ Q (.int (i * j)) H
  | .str z, .int j => MulOk z j ∧ Q (.str (Txt.mul z j)) H
  | .ref i, .int j => rRep (.ref i) (.int j) H Q ∨ rRepT K (.ref i) (.int j) H Q
  | _, _ => False
theorem uo_mul : OpR X (binaryOp .Mult) (oMul X.K) := by
  intro pins s σ H x y v u Q I rx ry h
  cases x <;> cases y <;> first
    | exact False.elim h
    | exact op_mul pins s σ H _ _ v u Q I rx ry ⟨_, _, rfl, rfl, h.1, h.2⟩
    | exact h.elim (op_rep pins s σ H _ _ v u Q I rx ry) (op_repT pins s σ H _ _ v u Q I rx ry)
    | (obtain ⟨t, rfl⟩ := rx; obtain ⟨t', rfl⟩ := ry; exact PySem.SB.mul h.1 fun t2 k => ⟨.str _, H, I.tok _, ⟨_, rfl⟩, h.2⟩)
def oMod : R2 := fun x y H Q => match x, y with
  | .int i, .int j => 0 < j ∧ Q (.int (i % j)) H
  | _, _ => False
theorem uo_mod : OpR X (binaryOp .Mod) oMod := by
  intro pins s σ H x y v u Q I rx ry h
  cases x <;> cases y <;> first
    | exact False.elim h
    | exact op_mod pins s σ H _ _ v u Q I rx ry ⟨_, _, rfl, rfl, h.1, h.2⟩
def oDiv : R2 := fun x y H Q => match x, y with
  | .int i, .int j => CDiv i j ∧ Q (.int (i / j)) H
  | _, _ => False
theorem uo_div : OpR X (binaryOp .FloorDiv) oDiv := by
  intro pins s σ H x y v u Q I rx ry h
  cases x <;> cases y <;> first
    | exact False.elim h
    | exact op_fdiv pins s σ H _ _ v u Q I rx ry ⟨_, _, rfl, rfl, h.1, h.2⟩
def oPow : R2 := fun x y H Q => match x, y with
  | .int i, .int j => CPow i j ∧ Q (.int (i ^ j.toNat)) H
  | _, _ => False
theorem uo_pow : OpR X (binaryOp .Pow) oPow := by
  intro pins s σ H x y v u Q I rx ry h
  cases x <;> cases y <;> first
    | exact False.elim h
    | exact op_pow pins s σ H _ _ v u Q I rx ry ⟨_, _, rfl, rfl, h.1, h.2⟩
/-- an order of ints, of texts -/
def oOrd (p : Int → Int → Bool) (t : List Nat → List Nat → Bool) : R2 := fun x y H Q => match x, y with
  | .int i, .int j => Q (.bl (p i j)) H
  | .str i, .str j => Q (.bl (t i.cps.toList j.cps.toList)) H
  | _, _ => False
abbrev oLt : R2 := oOrd (fun i j => decide (i < j)) fun i j => decide (i < j)
abbrev oLe : R2 := oOrd (fun i j => decide (i ≤ j)) fun i j => !decide (j < i)
abbrev oGt : R2 := oOrd (fun i j => decide (j < i)) fun i j => decide (j < i)
abbrev oGe : R2 := oOrd (fun i j => decide (j ≤ i)) fun i j => !decide (i < j)
theorem uo_lt : OpR X (compareOp .Lt) oLt := by
  intro pins s σ H x y v u Q I rx ry h
  cases x <;> cases y <;> first
    | exact False.elim h
    | exact op_lt pins s σ H _ _ v u Q I rx ry ⟨_, _, rfl, rfl, h⟩
    | exact op_lt_str pins s σ H _ _ v u Q I rx ry ⟨_, _, rfl, rfl, h⟩
theorem uo_le : OpR X (compareOp .LtE) oLe := by
  intro pins s σ H x y v u Q I rx ry h
  cases x <;> cases y <;> first
    | exact False.elim h
    | exact op_le pins s σ H _ _ v u Q I rx ry ⟨_, _, rfl, rfl, h⟩
    | exact op_le_str pins s σ H _ _ v u Q I rx ry ⟨_, _, rfl, rfl, h⟩
theorem uo_gt : OpR X (compareOp .Gt) oGt := by
  intro pins s σ H x y v u Q I rx ry h
  cases x <;> cases y <;> first
    | exact False.elim h
    | exact op_gt pins s σ H _ _ v u Q I rx ry ⟨_, _, rfl, rfl, h⟩
    | exact op_gt_str pins s σ H _ _ v u Q I rx ry ⟨_, _, rfl, rfl, h⟩
theorem uo_ge : OpR X (compareOp .GtE) oGe := by
  intro pins s σ H x y v u Q I rx ry h
  cases x <;> cases y <;> first
    | exact False.elim h
    | exact op_ge pins s σ H _ _ v u Q I rx ry ⟨_, _, rfl, rfl, h⟩
    | exact op_ge_str pins s σ H _ _ v u Q I rx ry ⟨_, _, rfl, rfl, h⟩

/-! ### ==, is, in -/
def ng : Bool → Bool → Bool
  | false, b => b
  | true, b => !b
def oEq (K : PySem.W.Frag) : R2 := fun x y H Q => match scal x y with
  | true => Q (.bl (decide (x = y))) H
  | false => rEqD K x y H Q
def oNe (K : PySem.W.Frag) : R2 := fun x y H Q => match scal x y with
  | true => Q (.bl (!decide (x = y))) H
  | false => rNeD K x y H Q
theorem uo_eq (hu : X.A.units + 64 < cLine) : OpR X (compareOp .Eq) (oEq X.K) := by
  intro pins s σ H x y v u Q I rx ry h
  unfold oEq at h
  cases e : scal x y with
  | true => rw [e] at h; exact op_eq pins s σ H x y v u Q I rx ry ⟨e, h⟩
  | false => rw [e] at h; exact op_eqD hu pins s σ H x y v u Q I rx ry h
theorem uo_ne (hu : X.A.units + 64 < cLine) : OpR X (compareOp .NotEq) (oNe X.K) := by
  intro pins s σ H x y v u Q I rx ry h
  unfold oNe at h
  cases e : scal x y with
  | true => rw [e] at h; exact op_ne pins s σ H x y v u Q I rx ry ⟨e, h⟩
  | false => rw [e] at h; exact op_neD hu pins s σ H x y v u Q I rx ry h
def oIs (neg : Bool) : R2 := fun x y H Q => match y, x with
  | .non, x => Q (.bl (ng neg <| decide (x = .non))) H
  | .bl b, .bl a => Q (.bl (ng neg <| decide (a = b))) H
  | _, _ => False
theorem uo_is : OpR X (compareOp .Is) (oIs false) := by
  intro pins s σ H x y v u Q I rx ry h
  cases y with
  | non => exact op_isN pins s σ H _ _ v u Q I rx ry ⟨rfl, by simpa [oIs, ng] using h⟩
  | bl b =>
    cases x <;> first
      | exact False.elim h
      | skip
    rename_i a
    cases (show v = Value.bool a from rx)
    cases (show u = Value.bool b from ry)
    by_cases e : a = b
    · subst e
      exact wpAny_is_self rfl ⟨.bl true, H, I, rfl, by simpa [oIs, ng] using h⟩
    · exact wpAny_is_other rfl (fun z => e (Value.bool.inj z)) ⟨.bl false, H, I, rfl, by simpa [oIs, ng, e] using h⟩
  | _ => exact False.elim (by cases x <;> exact h)
theorem uo_isnt : OpR X (compareOp .IsNot) (oIs true) := by
  intro pins s σ H x y v u Q I rx ry h
  cases y with
  | non => exact op_notN pins s σ H _ _ v u Q I rx ry ⟨rfl, by simpa [oIs, ng] using h⟩
  | bl b =>
    cases x <;> first
      | exact False.elim h
      | skip
    rename_i a
    cases (show v = Value.bool a from rx)
    cases (show u = Value.bool b from ry)
    by_cases e : a = b
    · subst e
      exact wpAny_isNot_self rfl ⟨.bl false, H, I, rfl, by simpa [oIs, ng] using h⟩
    · exact wpAny_isNot_other rfl (fun z => e (Value.bool.inj z)) ⟨.bl true, H, I, rfl, by simpa [oIs, ng, e] using h⟩
  | _ => exact False.elim (by cases x <;> exact h)
/-- in: a sign in a text; data in a list; a key in a dict -/
def oIn (K : PySem.W.Frag) (neg : Bool) : R2 := fun x y H Q => match y with
  | .str z => (match x with
    | .str ⟨⟨[c]⟩⟩ => Q (.bl (ng neg <| decide (c ∈ z.cps.toList))) H
    | _ => False)
  | .ref a => (∃ o, DGet H a x o ∧ Q (.bl (ng neg <| o.isSome)) H) ∨ (∃ d ds, Dp K H x d ∧ Dp K H (.ref a) (.list ds) ∧ SeqAt.shaped d = true ∧ SeqAt.shaped (.list ds) = true ∧ Q (.bl (ng neg <| ds.any fun z => PyData.eqv z d)) H) ∨
      ∃ xs, (SqL K H a xs ∨ SqT K H a xs) ∧ flatV x = true ∧ xs.all flatV = true ∧ Q (.bl (ng neg <| inV x xs)) H
  | _ => False
theorem oIn_str {K : PySem.W.Frag} {neg : Bool} {x : V} {z : Str} {H : Hp} {Q : VK} (h : oIn K neg x (.str z) H Q) : ∃ c, x = .str ⟨⟨[c]⟩⟩ ∧ Q (.bl (ng neg <| decide (c ∈ z.cps.toList))) H := by
  unfold oIn at h
  simp only at h
  split at h
  · exact ⟨_, rfl, h⟩
  · exact h.elim
theorem uo_in (hu : X.A.units + 65 < cLine) : OpR X (compareOp .In) (oIn X.K false) := by
  intro pins s σ H x y v u Q I rx ry h
  cases y with
  | str z =>
    obtain ⟨c, rfl, q⟩ := oIn_str h
    exact op_in_sign pins s σ H _ _ v u Q I rx ry ⟨c, z, rfl, rfl, q⟩
  | ref a =>
    rcases h with ⟨o, g, q⟩ | ⟨d, ds, h1, h2, h3, h4, q⟩ | ⟨xs, h1, h2, h3, q⟩
    · cases (show u = Value.ref a from ry)
      exact d_in (by omega) I g rx fun s2 I2 => ⟨.bl _, H, I2, rfl, q⟩
    · exact op_inD hu pins s σ H x _ v u Q I rx ry ⟨d, ds, h1, h2, h3, h4, q⟩
    · exact op_in_seq pins s σ H x _ v u Q I rx ry ⟨a, xs, rfl, h1, h2, h3, q⟩
  | _ => exact False.elim h
theorem uo_nin (hu : X.A.units + 65 < cLine) : OpR X (compareOp .NotIn) (oIn X.K true) := by
  intro pins s σ H x y v u Q I rx ry h
  cases y with
  | str z =>
    obtain ⟨c, rfl, q⟩ := oIn_str h
    exact op_notIn_sign pins s σ H _ _ v u Q I rx ry ⟨c, z, rfl, rfl, q⟩
  | ref a =>
    rcases h with ⟨o, g, q⟩ | ⟨d, ds, h1, h2, h3, h4, q⟩ | ⟨xs, h1, h2, h3, q⟩
    · cases (show u = Value.ref a from ry)
      exact d_notIn (by omega) I g rx fun s2 I2 => ⟨.bl _, H, I2, rfl, q⟩
    · exact op_notInD hu pins s σ H x _ v u Q I rx ry ⟨d, ds, h1, h2, h3, h4, q⟩
    · exact op_notIn_seq pins s σ H x _ v u Q I rx ry ⟨a, xs, rfl, h1, h2, h3, q⟩
  | _ => exact False.elim h

/-! ### the kinds of values -/
inductive Kd where
  | non | bl | int | str | lst | tup | dct
def Kd.nm : Kd → String
  | .non => "NoneType" | .bl => "bool" | .int => "int" | .str => "str" | .lst => "list" | .tup => "tuple" | .dct => "dict"
def isB : Kd → Kd → Bool
  | .non, .non => true | .bl, .bl => true | .bl, .int => true | .int, .int => true | .str, .str => true | .lst, .lst => true | .tup, .tup => true | .dct, .dct => true
  | _, _ => false
theorem isB_ok (t c : Kd) (hc : c ≠ .non) : kitB t.nm c.nm = some (isB t c) := by
  cases c <;> first
    | exact absurd rfl hc
    | (cases t <;> decide +kernel)
/-- what stands at an address -/
inductive AtT (K : PySem.W.Frag) (H : Hp) (a : Addr) : Kd → Prop where
  | lst {xs : List V} (h : SqL K H a xs) : AtT K H a .lst
  | tup {xs : List V} (h : SqT K H a xs) : AtT K H a .tup
  | dk {kvs : List (Key × V)} (h : H a = some (.dK kvs)) : AtT K H a .dct
  | dt {kvs : List (List Key × V)} (h : H a = some (.dT kvs)) : AtT K H a .dct
theorem AtT.ty {K : PySem.W.Frag} {H : Hp} {a : Addr} {t : Kd} (h : AtT K H a t) : TyX K H (.ref a) (.type t.nm) := by
  cases h with
  | lst h =>
    rcases h with (h | ⟨o, h⟩) | ⟨o, its, n, h, hc, _⟩
    · exact .base (.lst h)
    · exact .base (.frz h)
    · exact .kList h hc
  | tup h =>
    rcases h with (h | ⟨o, h⟩) | ⟨o, its, n, h, hc, _⟩
    · exact .base (.tup h)
    · exact .fTuple h
    · exact .kTuple h hc
  | dk h => exact .base (.dK h)
  | dt h => exact .base (.dT h)
def isV (K : PySem.W.Frag) (H : Hp) (f : Kd → Bool) (Q : Bool → Prop) : V → Prop
  | .non => Q (f .non)
  | .bl _ => Q (f .bl)
  | .int _ => Q (f .int)
  | .str _ => Q (f .str)
  | .ref a => ∃ t, AtT K H a t ∧ Q (f t)
  | _ => False
theorem isV_ty {K : PySem.W.Frag} {H : Hp} {f : Kd → Bool} {Q : Bool → Prop} {x : V} (h : isV K H f Q x) : ∃ t, TyX K H x (.type (Kd.nm t)) ∧ Q (f t) := by
  cases x <;> first
    | exact h.elim
    | exact ⟨.non, .base .non, h⟩
    | exact ⟨.bl, .base (.bl _), h⟩
    | exact ⟨.int, .base (.int _), h⟩
    | exact ⟨.str, .base (.str _), h⟩
    | (obtain ⟨t, h1, h2⟩ := h; exact ⟨t, h1.ty, h2⟩)
def rIs1 (K : PySem.W.Frag) (c : Kd) : List V → Hp → VK → Prop := fun vs H Q => match vs with
  | [x, .ty n] => n = c.nm ∧ isV K H (fun t => isB t c) (fun b => Q (.bl b) H) x
  | _ => False
theorem call_is1 (c : Kd) (hc : c ≠ .non := by intro z; cases z) : CallR X (.builtin "isinstance") (rIs1 X.K c) := imC call_isi fun vs H Q h => by
  unfold rIs1 at h
  split at h
  · obtain ⟨rfl, h⟩ := h
    obtain ⟨t, h1, h2⟩ := isV_ty h
    exact ⟨_, _, _, _, _, rfl, .ty _, h1, kit_ty (isB_ok t c hc), h2⟩
  · exact h.elim
def rIs2 (K : PySem.W.Frag) (c d : Kd) : List V → Hp → VK → Prop := fun vs H Q => match vs with
  | [x, .ref p] => H p = some (.tup [.ty c.nm, .ty d.nm]) ∧ isV K H (fun t => isB t c || isB t d) (fun b => Q (.bl b) H) x
  | _ => False
theorem call_is2 (c d : Kd) (hc : c ≠ .non := by intro z; cases z) (hd : d ≠ .non := by intro z; cases z) : CallR X (.builtin "isinstance") (rIs2 X.K c d) := imC call_isiT fun vs H Q h => by
  unfold rIs2 at h
  split at h
  · obtain ⟨hp, h⟩ := h
    obtain ⟨t, h1, h2⟩ := isV_ty h
    refine ⟨_, _, _, _, _, _, rfl, hp, .cons (.ty _) (.cons (.ty _) .nil), h1, ?_, h2⟩
    exact kitAny_cons (kit_ty (isB_ok t c hc)) (fun e => by rw [e, Bool.false_or]; exact kitAny_cons (kit_ty (isB_ok t d hd)) (fun e2 => by rw [e2]; exact kitAny_nil) fun e2 => by rw [e2]) fun e => by rw [e]; rfl
  · exact h.elim

/-! ### built-ins by values -/
/-- a list or a tuple -/
def Sq (K : PySem.W.Frag) (H : Hp) (a : Addr) (xs : List V) : Prop := SqL K H a xs ∨ SqT K H a xs
def lenH (K : PySem.W.Frag) (H : Hp) (a : Addr) (n : Nat) : Prop := (∃ xs, Sq K H a xs ∧ n = xs.length) ∨ (∃ kvs : List (Key × V), H a = some (.dK kvs) ∧ n = kvs.length)
def rLenU (K : PySem.W.Frag) : List V → Hp → VK → Prop := fun vs H Q => match vs with
  | [.str z] => z.length ≤ sizeLine ∧ Q (.int z.length) H
  | [.ref a] => ∃ n, lenH K H a n ∧ Q (.int (n : Nat)) H
  | _ => False
theorem cu_len : CallR X (.builtin "len") (rLenU X.K) := by
  intro pins s σ H vs us Q I r h
  unfold rLenU at h
  split at h
  · exact call_len_str pins s σ H _ us Q I r ⟨_, rfl, h.1, h.2⟩
  · obtain ⟨n, h1 | h1, q⟩ := h
    · obtain ⟨xs, h2, rfl⟩ := h1
      exact call_len_seq pins s σ H _ us Q I r ⟨_, xs, rfl, h2, q⟩
    · obtain ⟨kvs, h2, rfl⟩ := h1
      obtain ⟨u, rfl, ru⟩ := vals1 r
      cases ru
      exact d_len I (.inl h2) fun t s2 I2 => ⟨.int kvs.length, H, I2, ⟨t, rfl⟩, q⟩
  · exact h.elim
def rIntU : List V → Hp → VK → Prop := fun vs H Q => match vs with
  | [.int i] => Q (.int i) H
  | [.bl k] => Q (.int (if k then 1 else 0)) H
  | _ => False
theorem cu_int : CallR X (.type "int") rIntU := imC call_int1 fun vs H Q h => by
  unfold rIntU at h
  split at h
  · exact .inl ⟨_, rfl, h⟩
  · exact .inr ⟨_, rfl, h⟩
  · exact h.elim
def rBoolU : List V → Hp → VK → Prop := fun vs H Q => match vs with
  | [.int i] => Q (.bl (i != 0)) H
  | [.bl k] => Q (.bl k) H
  | _ => False
theorem cu_bool : CallR X (.type "bool") rBoolU := imC call_bool1 fun vs H Q h => by
  unfold rBoolU at h
  split at h
  · exact .inl ⟨_, rfl, h⟩
  · exact .inr ⟨_, rfl, h⟩
  · exact h.elim
def rAbsU : List V → Hp → VK → Prop := fun vs H Q => match vs with
  | [.int i] => Q (.int (if i < 0 then -i else i)) H
  | _ => False
theorem cu_abs : CallR X (.builtin "abs") rAbsU := imC call_abs fun vs H Q h => by
  unfold rAbsU at h
  split at h
  · exact ⟨_, rfl, h⟩
  · exact h.elim
/-- repr of a flat value -/
def rReprS : List V → Hp → VK → Prop := fun vs H Q => match vs with
  | [.bl b] => Q (.str (if b then "True" else "False" : Str)) H
  | [.non] => Q (.str "None") H
  | [.int i] => i.natAbs.log2 < 1920 ∧ Q (.str (toString i)) H
  | [.str z] => (reprText z).length ≤ sizeLine ∧ Q (.str (reprText z)) H
  | _ => False
theorem cu_reprS : CallR X (.builtin "repr") rReprS := by
  intro pins s σ H vs us Q I r h
  unfold rReprS at h
  split at h
  · obtain ⟨u, rfl, ru⟩ := vals1 r
    cases ru
    exact PySem.P.repr_of_bool ⟨.str _, H, I.tok _, ⟨_, rfl⟩, h⟩
  · obtain ⟨u, rfl, ru⟩ := vals1 r
    cases ru
    exact PySem.P.repr_of_none ⟨.str _, H, I.tok _, ⟨_, rfl⟩, h⟩
  · obtain ⟨u, rfl, t, rfl⟩ := vals1 r
    exact PySem.P.repr_of_int h.1 ⟨.str _, H, I.tok _, ⟨_, rfl⟩, h.2⟩
  · obtain ⟨u, rfl, t, rfl⟩ := vals1 r
    exact PySem.P.repr_of_str ⟨.str _, H, I.tok _, ⟨_, rfl⟩, h.2⟩ h.1
  · exact h.elim
def rListU (K : PySem.W.Frag) : List V → Hp → VK → Prop := fun vs H Q => match vs with
  | [.ref a] => ∃ xs, Sq K H a xs ∧ ∀ p, H p = none → Q (.ref p) (upd H p (.lst xs))
  | _ => False
theorem cu_list : CallR X (.type "list") (rListU X.K) := imC call_list_of fun vs H Q h => by
  unfold rListU at h
  split at h
  · obtain ⟨xs, h1, q⟩ := h
    exact ⟨_, xs, rfl, h1, q⟩
  · exact h.elim
def rTupU (K : PySem.W.Frag) : List V → Hp → VK → Prop := fun vs H Q => match vs with
  | [.ref a] => ∃ xs, (SqL K H a xs ∧ ∀ p, H p = none → Q (.ref p) (upd H p (.tup xs))) ∨ (SqT K H a xs ∧ Q (.ref a) H)
  | _ => False
theorem cu_tup : CallR X (.type "tuple") (rTupU X.K) := imC call_tuple_of fun vs H Q h => by
  unfold rTupU at h
  split at h
  · obtain ⟨xs, h1⟩ := h
    exact ⟨_, xs, rfl, h1⟩
  · exact h.elim
def rAllU (K : PySem.W.Frag) : List V → Hp → VK → Prop := fun vs H Q => match vs with
  | [.ref a] => ∃ bs : List Bool, SqL K H a (bs.map V.bl) ∧ Q (.bl (bs.all id)) H
  | _ => False
theorem cu_all (hc : X.calm = true) : CallR X (.builtin "all") (rAllU X.K) := imC (cr_all hc) fun vs H Q h => by
  unfold rAllU at h
  split at h
  · obtain ⟨bs, h1, q⟩ := h
    exact ⟨_, bs, rfl, h1, q⟩
  · exact h.elim
def rAnyU (K : PySem.W.Frag) : List V → Hp → VK → Prop := fun vs H Q => match vs with
  | [.ref a] => ∃ bs : List Bool, SqL K H a (bs.map V.bl) ∧ Q (.bl (bs.any id)) H
  | _ => False
theorem cu_any (hc : X.calm = true) : CallR X (.builtin "any") (rAnyU X.K) := imC (cr_any hc) fun vs H Q h => by
  unfold rAnyU at h
  split at h
  · obtain ⟨bs, h1, q⟩ := h
    exact ⟨_, bs, rfl, h1, q⟩
  · exact h.elim

/-! ### subscripts -/
def oIx (K : PySem.W.Frag) : R2 := fun x y H Q => match x, y with
  | .str z, .int i => z.length ≤ sizeLine ∧ ∃ c, atI z.cps.toList i = some c ∧ Q (.str ⟨#[c]⟩) H
  | .ref a, y => (∃ xs i v, y = .int i ∧ Sq K H a xs ∧ atI xs i = some v ∧ Q v H) ∨ ∃ v, DGet H a y (some v) ∧ Q v H
  | _, _ => False
theorem ix_dget (hu : X.A.units + 1 < cLine) : IxR X (fun x y H Q => ∃ a v, x = .ref a ∧ DGet H a y (some v) ∧ Q v H) := by
  intro value slice pins s σ H x y v u Q I rx ry h hs
  obtain ⟨a, r, rfl, g, q⟩ := h
  cases (show v = Value.ref a from rx)
  exact tail_any (dict_typeIs I g) PySem.F.slot_dict_getitem.lookup (d_getItem hu I g ry fun w' s3 I3 rw' => ⟨r, H, I3, rw', q⟩) hs
theorem ux (hu : X.A.units + 1 < cLine) : IxR X (oIx X.K) := by
  intro value slice pins s σ H x y v u Q I rx ry h hs
  unfold oIx at h
  split at h
  · obtain ⟨h1, c, h2, q⟩ := h
    exact ix_str value slice pins s σ H _ _ v u Q I rx ry ⟨_, _, _, rfl, rfl, h1, h2, q⟩ hs
  · rcases h with ⟨xs, i, z, rfl, h1 | h1, h2, q⟩ | ⟨z, g, q⟩
    · exact ix_list value slice pins s σ H _ _ v u Q I rx ry ⟨_, _, _, _, rfl, rfl, h1, h2, q⟩ hs
    · exact ix_tup value slice pins s σ H _ _ v u Q I rx ry ⟨_, _, _, _, rfl, rfl, h1, h2, q⟩ hs
    · exact ix_dget hu value slice pins s σ H _ _ v u Q I rx ry ⟨_, z, rfl, g, q⟩ hs
  · exact h.elim
def oSl (K : PySem.W.Frag) : V → Option Int → Option Int → Hp → VK → Prop := fun x lo hi H Q => match x with
  | .str z => z.length ≤ sizeLine ∧ Q (.str (cutS z lo hi)) H
  | .ref a => ∃ xs, (SqL K H a xs ∧ ∀ p, H p = none → Q (.ref p) (upd H p (.lst (cutV xs lo hi)))) ∨ (SqT K H a xs ∧
      (HT.sIx xs.length 0 lo = 0 ∧ HT.sIx xs.length xs.length hi = xs.length → Q (.ref a) H) ∧
      (¬ (HT.sIx xs.length 0 lo = 0 ∧ HT.sIx xs.length xs.length hi = xs.length) → ∀ p, H p = none → Q (.ref p) (upd H p (.tup (cutV xs lo hi)))))
  | _ => False
theorem us : SlR X (oSl X.K) := by
  intro pins s σ H x v vl vu lo hi sl Q I rx hs pl pu h
  unfold oSl at h
  split at h
  · exact sl_str pins s σ H _ v vl vu lo hi sl Q I rx hs pl pu ⟨_, rfl, h.1, h.2⟩
  · obtain ⟨xs, ⟨h1, q⟩ | ⟨h1, q1, q2⟩⟩ := h
    · exact sl_list pins s σ H _ v vl vu lo hi sl Q I rx hs pl pu ⟨_, xs, rfl, h1, q⟩
    · exact sl_tupA pins s σ H _ v vl vu lo hi sl Q I rx hs pl pu ⟨_, xs, rfl, h1, q1, q2⟩
  · exact h.elim
def mPart (t : TE) : TO := fun σ H Q => t σ H fun x H1 => match x with
  | .int i => Q (some i) H1
  | _ => False
theorem upo {e : Expr} {te : TE} (h : PE X e te) : PO X (some e) (mPart te) := by
  refine ⟨fun pins s σ H Q I hw => ?_⟩
  rw [evalPart_some]
  refine thn (h.run pins s σ H _ I hw) fun u s1 z => ?_
  obtain ⟨x, H1, I1, r1, q1⟩ := z
  cases x with
  | int i =>
    obtain ⟨t, rfl⟩ := r1
    exact ⟨some i, H1, I1, .int i t, q1⟩
  | _ => exact False.elim q1

def oNeg : V → Hp → VK → Prop := fun x H Q => match x with
  | .int i => Q (.int (-i)) H
  | _ => False
theorem uo_neg : UnR X (unaryOp .USub) oNeg := by
  intro pins s σ H x v Q I rx h
  cases x <;> first
    | exact False.elim h
    | exact un_neg pins s σ H _ v Q I rx ⟨_, rfl, h⟩
/-- a chain of two comparisons as a test -/
theorem ut_chain {op op' : CmpOp} {r r' : R2} (ho : OpR X (compareOp op) r) (ho' : OpR X (compareOp op') r') (ha : PE X a ta) (hb : PE X b tb) (hc : PE X c tc)
    (hm : lastMarks [op, op'] [b, c] = false := by with_unfolding_all rfl) : PT X (.Compare a [op, op'] [b, c] pos) (mTest (mChain r r' ta tb tc)) := by
  refine ⟨fun pins s σ H Q I h => ?_⟩
  refine isTrue_chain (thn (ha.run pins s σ H _ I h) fun v s1 z => ?_) hm
  obtain ⟨x, H1, I1, r1, q1⟩ := z
  refine test_link (thn (hb.run pins s1 σ H1 _ I1 q1) fun u s2 z2 => ?_)
  obtain ⟨y, H2, I2, r2, q2⟩ := z2
  refine thn (ho pins s2 σ H2 x y v u _ I2 r1 r2 q2) fun d s3 z3 => ?_
  obtain ⟨z, H3, I3, r3, q3⟩ := z3
  cases z with
  | bl k =>
    cases r3
    refine wpAny_truthy_bool ?_
    cases k with
    | false => exact ite_ff ⟨H3, I3, q3⟩
    | true =>
      refine ite_tt (test_last (thn (hc.run pins s3 σ H3 _ I3 q3) fun w' s4 z4 => ?_))
      obtain ⟨z', H4, I4, r4, q4⟩ := z4
      refine thn (ho' pins s4 σ H4 y z' u w' _ I4 r2 r4 q4) fun d' s5 z5 => ?_
      obtain ⟨z2, H5, I5, r5, q5⟩ := z5
      obtain ⟨k2, rfl, q6⟩ := bQ_bl q5
      cases r5
      exact wpAny_truthy_bool ⟨H5, I5, q6⟩
  | _ => exact False.elim q3
/-- any value's truth -/
def tru (K : PySem.W.Frag) (Q : Bool → Hp → Prop) : VK := fun x H => match x with
  | .bl k => Q k H
  | .non => Q false H
  | .int i => Q (i != 0) H
  | .str z => z.length ≤ sizeLine ∧ Q ((z.length : Int) != 0) H
  | .ref p => ∃ k, TruV K (.ref p) H k ∧ Q k H
  | _ => False
def mTru (K : PySem.W.Frag) (t : TE) : TT := fun σ H Q => t σ H (tru K Q)
theorem utt {e : Expr} {t : TE} (h : PE X e t) (he : ∀ whole, isTrue e X.env whole = (do let v ← whole; standAt e.pos; holding [v] (truthy v)) := by intro _; rfl) : PT X e (mTru X.K t) := by
  refine ⟨fun pins s σ H Q I hw => isTrue_plain (thn (h.run pins s σ H _ I hw) fun v s1 q => ?_) (he _)⟩
  obtain ⟨x, H1, I1, r1, q1⟩ := q
  refine tru_ok pins s1 σ H1 x v Q I1 r1 ?_
  cases x with
  | bl k => exact ⟨k, rfl, q1⟩
  | non => exact ⟨false, rfl, q1⟩
  | int i => exact ⟨_, rfl, q1⟩
  | str z => exact ⟨_, ⟨q1.1, rfl⟩, q1.2⟩
  | ref p => exact q1
  | _ => exact False.elim q1
/-! ### what is walked -/
theorem PIor {tg it : Expr} {r1 r2 : TI} (h1 : PI X tg it r1) (h2 : PI X tg it r2) : PI X tg it (fun σ H R => r1 σ H R ∨ r2 σ H R) :=
  ⟨fun pins s σ H R I h => h.elim (h1.run pins s σ H R I) (h2.run pins s σ H R I)⟩
def iU (K : PySem.W.Frag) (te : TE) : TI := fun σ H R => iList K te σ H R ∨ iTup K te σ H R ∨ iStr te σ H R
theorem ui {tg e : Expr} {te : TE} (he : PE X e te) : PI X tg e (iU X.K te) := PIor (pi_list he) (PIor (pi_tup he) (pi_str he))
/-! ### stores -/
def oSet (K : PySem.W.Frag) : V → V → V → Hp → (Hp → Prop) → Prop := fun o i v H Q => match o with
  | .ref p => (∃ xs k j, i = .int k ∧ H p = some (.lst xs) ∧ ixN xs.length k = some j ∧ Q (upd H p (.lst (xs.set j v)))) ∨ ∃ H', DPut H p i v H' ∧ Q H'
  | _ => False
theorem uset (hu : X.A.units + 1 < cLine) : PSet X (oSet X.K) := by
  intro pins s σ H o i v ov iv u Q I ro ri rv h
  cases o with
  | ref p =>
    rcases h with ⟨xs, k, j, rfl, h1, h2, q⟩ | ⟨H2, h1, q⟩
    · exact set_list pins s σ H _ _ v ov iv u Q I ro ri rv ⟨p, xs, k, j, rfl, rfl, h1, h2, q⟩
    · cases (show ov = Value.ref p from ro)
      exact d_setItem hu I h1 ri rv fun s2 I2 => ⟨H2, I2, q⟩
  | _ => exact False.elim h
/-! ### calls of the text's defs -/
/-- the def x keeps its promise -/
structure Cal (P : Program) (w : World) (K : PySem.W.Frag) (mg : Str → Option Value) (base : Heap) (CX : CXT) (x : Str) (k : Nat) (ps : List Str) (sp : Sp) : Prop where
  ex : ∃ fd, FnOk P w K mg base CX k (He.ga K x) fd ps sp ∧ Binds K fd ps []
  at_ : mg x = some (.ref (He.ga K x))
  kp : PySem.W.keepIn K (.ref (He.ga K x)) = true
variable {CX : CXT} {x : Str} {k : Nat} {ps : List Str} {sp : Sp} {E : XK} {e : Expr} {es : List Expr} {t : TA} {p : Pos}
theorem ucall (F : Cal X.prog X.w X.K X.mg X.base CX x k ps sp) (hr : Room k X.A) (hg : Gl X x) (hx : Passes CX X E)
    (ha : PA X (e :: es) t) (hdb : (x == ("__debug__" : Str)) = false := by decide) (he : starEach (e :: es) X.env = (false, eval e X.env) :: starEach es X.env := by rfl) (hpl : (backTo pos (starEach es X.env)).any (·.1) = false := by rfl) :
    PE X (.Call (.Name x p) (e :: es) [] pos) (tCall sp [] E t) := by
  obtain ⟨fd, h1, h2⟩ := F.ex
  exact pe_call h1 hr hg F.at_ F.kp h2 .nil hx ha hdb he hpl
theorem ucall0 (F : Cal X.prog X.w X.K X.mg X.base CX x k ps sp) (hr : Room k X.A) (hg : Gl X x) (hx : Passes CX X E) (hdb : (x == ("__debug__" : Str)) = false := by decide) :
    PE X (.Call (.Name x p) [] [] pos) (tCall sp [] E tNil) := by
  obtain ⟨fd, h1, h2⟩ := F.ex
  exact pe_call0 h1 hr hg F.at_ F.kp h2 .nil hx hdb
/-! ### the module's constants -/
theorem ug_str {z : Str} (h : ∃ t, X.mg x = some (.str z t)) (hg : Gl X x) (hd : (x == ("__debug__" : Str)) = false := by decide) : PE X (.Name x pos) (tC (.str z)) := by
  obtain ⟨t, h⟩ := h
  exact pe_glob hg h ⟨t, rfl⟩ hd
theorem ug_int {z : Int} (h : ∃ t, X.mg x = some (.int z t)) (hg : Gl X x) (hd : (x == ("__debug__" : Str)) = false := by decide) : PE X (.Name x pos) (tC (.int z)) := by
  obtain ⟨t, h⟩ := h
  exact pe_glob hg h ⟨t, rfl⟩ hd
theorem ug_ref {z : Addr} (h : X.mg x = some (.ref z)) (hg : Gl X x) (hd : (x == ("__debug__" : Str)) = false := by decide) : PE X (.Name x pos) (tC (.ref z)) :=
  pe_glob hg h rfl hd
theorem hu65 {k : Nat} {A : Around} (r : Room k A) : A.units + 65 < cLine := by have := r.un; omega
theorem ugn (i : Nat) (nd : X.N.Nodup) (hi : X.N[i]? = some x := by rfl) (hx : Loc X.env.scope x := by first | exact Or.inl rfl | exact Or.inr rfl)
    (hf : X.fn x = true ∨ X.env.scope.names.lookup x = some .local := by first | exact .inl rfl | exact .inr rfl | assumption) : PG X (.Name x pos) (gName i) := pg_name nd hi hx hf
theorem us_set (i : Nat) {te : TE} {pos' : Pos} (nd : X.N.Nodup) (he : PE X e te) (hi : X.N[i]? = some x := by rfl) (hx : Loc X.env.scope x := by first | exact Or.inl rfl | exact Or.inr rfl)
    (hs : swapsWith e (some (.Name x pos')) pos.line X.env = pure false := by rfl) (hf : X.fn x = true ∨ X.env.scope.names.lookup x = some .local := by first | exact .inl rfl | exact .inr rfl | assumption) :
    PS X (.Assign [.Name x pos'] e pos) (tAsg te (gName i)) := ps_set nd hi hx he hs hf
abbrev FnP (K : PySem.W.Frag) (x qual : Str) (st : Stmt) (f : Addr) (fd : FuncData) : Prop := FunD K x qual (defArgs st) (defBody st) (defScope st) [] [] f fd
abbrev CalL (P : Program) (w : World) (K : PySem.W.Frag) (mg : Str → Option Value) (base : Heap) (x : Str) (k : Nat) (ps : List Str) (sp : Sp) : Prop := Cal P w K mg base CX0 x k ps sp
def prm {α : Type} (d : α) (perm : List Nat) (zs : List α) : List α := perm.map fun i => zs.getD i d
theorem prm_rel {zs : List V} {ws : List Value} (r : Vals zs ws) : ∀ perm : List Nat, Vals (prm V.non perm zs) (prm Value.none perm ws)
  | [] => .nil
  | i :: l => by
    refine .cons ?_ (prm_rel r l)
    show RelV (zs.getD i V.non) (ws.getD i Value.none)
    rw [List.getD_eq_getElem?_getD, List.getD_eq_getElem?_getD]
    cases q : zs[i]? with
    | none => rw [r.none_of q]; rfl
    | some v =>
      obtain ⟨u, h1, h2⟩ := r.get q
      rw [h1]
      exact h2
/-- a call by keywords alone -/
structure CalK (P : Program) (w : World) (K : PySem.W.Frag) (mg : Str → Option Value) (base : Heap) (CX : CXT) (x : Str) (k : Nat) (ps ks : List Str) (perm : List Nat) (sp : Sp) : Prop where
  ex : ∃ fd, FnOk P w K mg base CX k (He.ga K x) fd ps sp ∧ ∀ (s : Shared) (ws : List Value), ws.length = ks.length → BindsTo s fd ⟨[], ks.zip ws⟩ (ps.zip (prm .none perm ws))
  at_ : mg x = some (.ref (He.ga K x))
  kp : PySem.W.keepIn K (.ref (He.ga K x)) = true
theorem bindsKA {K : PySem.W.Frag} {qual : Str} {params : Arguments} {body : List Stmt} {scope : Scope} {f : Addr} {fd : FuncData} {ks : List Str} {perm : List Nat} (F : FunD K x qual params body scope [] [] f fd)
    (h : ∀ (kV doc pm : Value) (an : Option Addr) (cdv ct : Value) (ws : List Value), ws.length = ks.length → bindArgs (PySem.W.fnOf x qual params body scope .none kV doc pm an cdv ct) ⟨[], ks.zip ws⟩ = pure (ps.zip (prm .none perm ws)))
    (s : Shared) (ws : List Value) (hl : ws.length = ks.length) : BindsTo s fd ⟨[], ks.zip ws⟩ (ps.zip (prm .none perm ws)) := by
  obtain ⟨oc, od, dV, kV, doc, pm, an, cdv, ct, osl, rfl, lk, hcd, hD, hK⟩ := F.ex
  rcases hD with ⟨_, rfl⟩ | ⟨e, _⟩
  · exact .of_eq (h kV doc pm an cdv ct ws hl)
  · exact absurd rfl e
def tCallP (perm : List Nat) (sp : Sp) (E : XK) (t : TA) : TE := fun σ H Q => t σ H fun zs H1 => zs.length = perm.length ∧ sp (prm .non perm zs) H1 Q E
theorem ucallk0 {ks : List Str} {perm : List Nat} {kws : List Keyword} {tk : TA} (F : CalK X.prog X.w X.K X.mg X.base CX x k ps ks perm sp) (hr : Room k X.A) (hg : Gl X x) (hx : Passes CX X E) (hkw : PK X kws tk)
    (hpk : perm.length = ks.length := by rfl) (hall : (backToKw pos (keywordEach kws X.env)).all (·.1.isSome) = true := by rfl) (hks : (backToKw pos (keywordEach kws X.env)).filterMap (·.1) = ks := by rfl)
    (hdb : (x == ("__debug__" : Str)) = false := by decide) (hpl : ((backTo pos (starEach [] X.env)).any (·.1) || (backToKw pos (keywordEach kws X.env)).any (·.1.isNone)) = false := by rfl) :
    PE X (.Call (.Name x p) [] kws pos) (tCallP perm sp E tk) := by
  obtain ⟨fd, F1, F2⟩ := F.ex
  refine ⟨fun pins s σ H Q I h => ?_⟩
  refine wpAny_Call_Name_kw (ld_glob I hg F.at_ ?_ hdb)
  refine PySem.W.callWith_KW0 (h₀ := X.base) I.ok.mod.kin F.kp hall (thn (hkw.run pos pins s σ H _ I h) fun ws s2 z => ?_) hpl
  obtain ⟨zs, H2, I2, rz, hl, q2⟩ := z
  refine ⟨I2.kIn, ?_⟩
  rw [hks]
  have r2 := prm_rel rz perm
  refine wpAny_call (codeAny_mono (F1.run X.A X.stack s2 H2 ⟨[] ++ [], ks.zip ws⟩ _ _ Q E hr I2.env0 (F2 s2 ws (by rw [← rz.length, hl, hpk])) r2 q2) fun r s' hq => ?_)
  cases r with
  | error e => exact hx pins σ H2 s2 e s' I2 hq
  | ok fl =>
    cases fl with
    | ret u => exact I2.after hq
    | next => exact False.elim hq
    | brk => exact False.elim hq
    | cont => exact False.elim hq
def rJoin (K : PySem.W.Frag) : V → List V → Hp → VK → Prop := fun x xs H Q => ∃ a p, ∃ ys : List Str, x = .str a ∧ xs = [.ref p] ∧ (SqL K H p (ys.map V.str) ∨ SqT K H p (ys.map V.str)) ∧
  (ys.map (·.length)).sum + ys.length * a.length ≤ 16777216 ∧ Q (.str (Txt.join a ys)) H
end
end GW

namespace GW
open PySem L2
/-! ### branches -/
theorem brd {b : Bool} {A B : Prop} (h1 : b = true → A) (h2 : b = false → B) : Decidable.rec (motive := fun _ => Prop) (fun _ => B) (fun _ => A) (instDecidableEqBool b true) := by
  cases b with
  | true => exact h1 rfl
  | false => exact h2 rfl
theorem brD {p : Prop} [Decidable p] {A B : Prop} (h1 : p → A) (h2 : ¬ p → B) : Decidable.rec (motive := fun _ => Prop) (fun _ => B) (fun _ => A) (instDecidableEqBool (decide p) true) :=
  brd (fun h => h1 (of_decide_eq_true h)) fun h => h2 (of_decide_eq_false h)
theorem brN {p : Prop} [Decidable p] {A B : Prop} (h1 : ¬ p → A) (h2 : p → B) : Decidable.rec (motive := fun _ => Prop) (fun _ => B) (fun _ => A) (instDecidableEqBool (!decide p) true) :=
  brd (fun h => h1 (by simpa using h)) fun h => h2 (by simpa using h)
/-! ### heaps -/
theorem same_upd {H H' : Hp} {p : Addr} {o : HO} (e : Same H H') (n : H p = none) : Same H (upd H' p o) := fun b u h => by
  rw [upd_ne (ne_of_none h n)]
  exact e b u h
theorem same_new {H : Hp} {p : Addr} {o : HO} (n : H p = none) : Same H (L2.upd H p o) := same_upd (Same.refl H) n
theorem same_seqT {K : PySem.W.Frag} {H H' : Hp} {a : Addr} {xs : List V} (e : Same H H') (h : SqT K H a xs) : SqT K H' a xs := by
  rcases h with (h | ⟨o, h⟩) | h
  · exact .inl (.inl (e _ _ h))
  · exact .inl (.inr ⟨o, e _ _ h⟩)
  · exact .inr h
theorem same_sq {K : PySem.W.Frag} {H H' : Hp} {a : Addr} {xs : List V} (e : Same H H') (h : Sq K H a xs) : Sq K H' a xs := h.elim (fun h => .inl (e.seq h)) fun h => .inr (same_seqT e h)
theorem upd_none {H : Hp} {p q : Addr} {o : HO} (h : upd H p o q = none) : H q = none ∧ q ≠ p := by
  by_cases e : q = p
  · subst e; rw [upd_same] at h; cases h
  · rw [upd_ne e] at h; exact ⟨h, e⟩
/-- all but p stands as it stood -/
def Kp (p : Addr) (H H' : Hp) : Prop := ∀ b o, b ≠ p → H b = some o → H' b = some o
theorem Kp.refl {p : Addr} (H : Hp) : Kp p H H := fun _ _ _ h => h
theorem Kp.trans {p : Addr} {H H1 H2 : Hp} (a : Kp p H H1) (b : Kp p H1 H2) : Kp p H H2 := fun c o n h => b c o n (a c o n h)
theorem same_kp {p : Addr} {H H' : Hp} (e : Same H H') : Kp p H H' := fun b o _ h => e b o h
theorem Kp.upd {p : Addr} {H H' : Hp} {o : HO} (e : Kp p H H') : Kp p H (upd H' p o) := fun b u n h => by
  rw [upd_ne n]
  exact e b u n h
theorem Kp.new {p q : Addr} {H H' : Hp} {o : HO} (e : Kp p H H') (n : H q = none) : Kp p H (L2.upd H' q o) := fun b u hn h => by
  rw [upd_ne (ne_of_none h n)]
  exact e b u hn h
/-- an object written: what is known of the heap behind it -/
theorem heapS {P : Hp → Prop} {H : Hp} {p : Addr} {o : HO} (h : ∀ H1 : Hp, H1 p = some o → Kp p H H1 → P H1) : P (upd H p o) := h _ upd_same (Kp.upd (Kp.refl H))
/-- a new object laid -/
theorem heapN {P : Hp → Prop} {H : Hp} {p : Addr} {o : HO} (n : H p = none) (h : ∀ H1 : Hp, H1 p = some o → Same H H1 → P H1) : P (upd H p o) := h _ upd_same (same_new n)
theorem heapS2 {α : Type} {P : Hp → α → Prop} {Q : α} {H : Hp} {p : Addr} {o : HO} (h : ∀ H1 : Hp, H1 p = some o → Kp p H H1 → P H1 Q) : P (upd H p o) Q := h _ upd_same (Kp.upd (Kp.refl H))
theorem heapN2 {α : Type} {P : Hp → α → Prop} {Q : α} {H : Hp} {p : Addr} {o : HO} (n : H p = none) (h : ∀ H1 : Hp, H1 p = some o → Same H H1 → P H1 Q) : P (upd H p o) Q := h _ upd_same (same_new n)
/-! ### comprehensions that change nothing -/
section
variable {J : It} {G : Hp → Prop} {Y : Nat → Hp → V → Hp → Prop} {xs : List V}
theorem lc_fm (w : Walk J xs.length G Y) (f : V → Option V) {g : TG} {tt : TT} {te : TE} {vs : List Nat} {σ : St} {H1 : Hp} {D : Addr} {Qd : Hp → Prop} (hD : H1 D = none) (hn : xs.length ≤ sizeLine)
    (hy : ∀ i H x H', i < xs.length → Y i H x H' → H' = H ∧ xs[i]? = some x) (hG : ∀ H, Same H1 H → G H)
    (hs : ∀ (x : V) (H : Hp) (Q : V → Hp → Prop) (R : Hp → Prop), x ∈ xs → Same H1 H → (∀ H' y, Same H H' → f x = some y → Q y H') → (∀ H', Same H H' → f x = none → R H') →
      g x (wipe σ vs) H fun σ2 H2 => wipe σ2 vs = wipe σ vs ∧ tt σ2 H2 fun b H3 => if b = true then te σ2 H3 Q else R H3)
    (hd : ∀ H, H D = some (.lst (xs.filterMap f)) → Same H1 H → Qd H) :
    ∃ W : Nat → Nat → Hp → Prop, (∃ m, W 0 m (upd H1 D (.lst []))) ∧ ∀ i m H, W i m H →
      (J.stop i H ∧ Qd H) ∨ (J.go i H ∧ ∃ Nx : Hp → Prop, (∀ H', Nx H' → ∃ m', m' < m ∧ W (i + 1) m' H') ∧ ∀ x H', J.yld i H x H' → g x (wipe σ vs) H' fun σ2 H2 => wipe σ2 vs = wipe σ vs ∧ tt σ2 H2 fun b H3 =>
        if b = true then te σ2 H3 fun y H4 => ∃ acc, H4 D = some (.lst acc) ∧ acc.length < sizeLine ∧ Nx (upd H4 D (.lst (acc ++ [y]))) else Nx H3) := by
  refine lc_it w (fun i H => H D = some (.lst ((xs.take i).filterMap f)) ∧ Same H1 H) ⟨upd_same, same_new hD⟩ (fun i H _ p => hG H p.2) ?_ fun H p => hd H (by rw [p.1, List.take_length]) p.2
  intro i x H H' hi p y
  obtain ⟨rfl, hx⟩ := hy i H x H' hi y
  obtain ⟨p1, p2⟩ := p
  obtain ⟨hlt, ex⟩ := List.getElem?_eq_some_iff.mp hx
  have et : xs.take (i + 1) = xs.take i ++ [x] := by rw [List.take_succ, hx] <;> rfl
  refine hs x H' _ _ (List.mem_of_getElem? hx) p2 (fun H2 y s2 e => ⟨_, s2 _ _ p1, ?_, ?_, ?_⟩) fun H2 s2 e => ⟨?_, p2.trans s2⟩
  · have h1 : ((xs.take i).filterMap f).length ≤ (xs.take i).length := List.length_filterMap_le _ _
    rw [List.length_take] at h1
    omega
  · rw [upd_same, et, List.filterMap_append, List.filterMap_cons, e] <;> rfl
  · exact same_upd (p2.trans s2) hD
  · rw [s2 _ _ p1, et, List.filterMap_append, List.filterMap_cons, e, List.filterMap_nil, List.append_nil]
theorem signs_at {z : Str} : ∀ (i : Nat) (H : Hp) (x : V) (H' : Hp), i < (z.cps.toList.map fun c => V.str ⟨#[c]⟩).length → (H' = H ∧ ∃ c, z.cps[i]? = some c ∧ x = .str ⟨#[c]⟩) →
    H' = H ∧ (z.cps.toList.map fun c => V.str ⟨#[c]⟩)[i]? = some x := by
  rintro i H x H' _ ⟨rfl, c, h, rfl⟩
  refine ⟨rfl, ?_⟩
  rw [List.getElem?_map]
  simp [h]
theorem walk_signs {z : Str} : Walk (Its z) (z.cps.toList.map fun c => V.str ⟨#[c]⟩).length (fun _ => True) (fun i H v H' => H' = H ∧ ∃ c, z.cps[i]? = some c ∧ v = .str ⟨#[c]⟩) := by
  have h := walk_str (z := z)
  have e : (z.cps.toList.map fun c => V.str ⟨#[c]⟩).length = z.cps.size := by simp
  rw [e]
  exact h
theorem at_YAt {xs : List V} : ∀ (i : Nat) (H : Hp) (x : V) (H' : Hp), i < xs.length → YAt xs i H x H' → H' = H ∧ xs[i]? = some x := fun _ _ _ _ _ h => h
end
end GW
namespace GW
open PySem L2
/-! ### data -/
theorem dpAll_ints {K : PySem.W.Frag} {H : Hp} : ∀ ns : List Int, DpAll K H (ns.map V.int) (ns.map PyData.int)
  | [] => .nil
  | n :: ns => .cons (.int n) (dpAll_ints ns)
theorem lay_ints : ∀ ns : List Int, PyData.canLayAll0 (ns.map PyData.int) = true
  | [] => by simp [PyData.canLayAll0]
  | n :: ns => by simp [PyData.canLayAll0, PyData.canLay0, lay_ints ns]
theorem dep_ints : ∀ ns : List Int, PyData.depthAll (ns.map PyData.int) = 0
  | [] => by simp [PyData.depthAll]
  | n :: ns => by simp [PyData.depthAll, PyData.depth, dep_ints ns]
theorem shp_lst {ds : List PyData} (h1 : PyData.canLayAll0 ds = true) (h2 : PyData.depthAll ds ≤ 63) : SeqAt.shaped (.list ds) = true := by
  unfold SeqAt.shaped
  simp [PyData.canLay0, PyData.depth, h1]
  omega
theorem shp_tup {ds : List PyData} (h1 : PyData.canLayAll0 ds = true) (h2 : PyData.depthAll ds ≤ 63) : SeqAt.shaped (.tuple ds) = true := by
  unfold SeqAt.shaped
  simp [PyData.canLay0, PyData.depth, h1]
  omega
theorem shp_ints (ns : List Int) : SeqAt.shaped (.list (ns.map PyData.int)) = true := shp_lst (lay_ints ns) (by rw [dep_ints]; omega)
theorem shp_nil : SeqAt.shaped (.list []) = true := shp_ints []
theorem eqv_nil (ds : List PyData) : PyData.eqv (.list ds) (.list []) = ds.isEmpty := by
  cases ds <;> simp [PyData.eqv, PyData.eqvAll]
end GW
namespace GW
open PySem L2
/-! ### where ways meet -/
theorem asgG {te : TE} {g : TG} {rest : TS} {D : Ends} {σ : St} {H : Hp} (R : V → Hp → Prop) (h : ∀ Q' : VK, (∀ v H', R v H' → Q' v H') → te σ H Q') (h2 : ∀ v H', R v H' → g v σ H' (rest D)) : tSeq (tAsg te g) rest D σ H := h _ h2
theorem stG {t rest : TS} {D : Ends} {σ : St} {H : Hp} (R : St → Hp → Prop) (h : ∀ k : St → Hp → Prop, (∀ σ' H', R σ' H' → k σ' H') → t { D with nx := k } σ H) (h2 : ∀ σ' H', R σ' H' → rest D σ' H') : tSeq t rest D σ H := h _ h2
end GW
namespace GW
open PySem L2
theorem mVar_of {i : Nat} {σ : St} {H : Hp} {Q : VK} {v : V} (h : σ[i]? = some (some v)) (q : Q v H) : mVar i σ H Q := by
  unfold mVar
  rw [h]
  exact q
end GW

/-! errors that are caught and kept -/
namespace GW
section
open PySem PySem.Spec PyProof.Rows L2
/-- a caught error at a: its class, its dict -/
def ExH (cls : Value) (d : Option Addr) (a : Addr) : HO := .ext fun h => ∃ (o : Obj) (vs : Array Value), h.get? a = some o ∧ Zc cls d o ∧ o.data = .fields vs
theorem exH_ok {P : Program} {w : World} {H : Hp} {h : Heap} {a : Addr} {o : Obj} {vs : Array Value} {cls : Value} {d : Option Addr} (e : h.get? a = some o) (z : Zc cls d o) (f : o.data = .fields vs) : ObjOk P w H h a (ExH cls d a) :=
  ⟨⟨o, vs, e, z, f⟩, ⟨o, e⟩, fun _ _ ⟨o', ws, e', z', f'⟩ k => ⟨o', ws, k _ e', z', f'⟩⟩
theorem exH_at {X : Cx} {pins : List (Addr × Obj)} {σ : L2.St} {H : Hp} {s : Shared} {a : Addr} {cls : Value} {d : Option Addr} (I : Inv X pins σ H s) (e : H a = some (ExH cls d a)) : ∃ (o : Obj) (vs : Array Value), s.heap.get? a = some o ∧ Zc cls d o ∧ o.data = .fields vs :=
  (I.hok a _ e).1
section
variable {X : Cx} {pins : List (Addr × Obj)} {σ : L2.St} {H : Hp} {s : Shared}
theorem hold_ex {a : Addr} {o : Obj} {vs : Array Value} {cls : Value} {d : Option Addr} (I : Inv X pins σ H s) (e : s.heap.get? a = some o) (z : Zc cls d o) (f : o.data = .fields vs) (na : H a = none) (n0 : X.s_0.heap.get? a = none)
    (nL : a ≠ X.env.locals) (pn : ∀ p ∈ X.pn ++ pins, p.1 ≠ a) : Inv X pins σ (upd H a (ExH cls d a)) s where
  ok := I.ok
  os := I.os
  bare := I.bare
  base := { keep := I.base.keep, slot := I.base.slot, there := I.base.there
            free := fun b u q n x => (upd_ne fun y => by rw [y, n0] at q; cases q).trans (I.base.free b u q n x)
            tups := fun b xs q => (upd_ne (ne_of_none (I.base.tups b xs q) na)).trans (I.base.tups b xs q)
            frzs := fun b u w q => (upd_ne (ne_of_none (I.base.frzs b u w q) na)).trans (I.base.frzs b u w q)
            tbls := fun b ps q => by
              obtain ⟨m, r⟩ := I.base.tbls b ps q
              exact ⟨m, (upd_ne (ne_of_none r na)).trans r⟩ }
  loc := I.loc
  cell := I.cell
  free := (upd_ne (Ne.symm nL)).trans I.free
  freeC := fun x c q => (upd_ne fun y => by
    obtain ⟨v, u, r, t⟩ := I.cell x c q
    rw [y, e] at r
    cases r
    rw [f] at t
    cases t).trans (I.freeC x c q)
  pin := fun p hp => by
    obtain ⟨h1, h2, h3⟩ := I.pin p hp
    exact ⟨h1, (upd_ne (pn p hp)).trans h2, h3⟩
  hok := fun b u q => by
    by_cases y : b = a
    · subst y
      rw [upd_same] at q
      cases q
      exact exH_ok e z f
    · rw [upd_ne y] at q
      exact (I.hok b u q).stay (fun _ _ _ r => r) (fun c r => (upd_ne (ne_of_none r na)).trans r) fun c xs r => (upd_ne (ne_of_none r na)).trans r
  len := I.len
/-- what the clause 'except x as n: ..' wishes, the error kept behind it -/
def wKept (K : PySem.W.Frag) (c : Value) (i : Nat) (ts : Addr → Value → Option Addr → TS) (Wout : WX) (D : Ends) : WX := fun cls d τ G =>
  ∃ b, PySem.W.exmOne K cls c = some b ∧ (b = false → Wout cls d τ G) ∧
    (b = true → ∀ a, G a = none → ts a cls d { nx := fun τ' G' => D.nx (τ'.set i none) (upd G' a (ExH cls d a)), rt := fun _ _ => False, bk := fun _ _ => False, ct := fun _ _ => False } (τ.set i (some (.ref a))) G)
theorem ps_try_kept {x n : Str} {c : Value} {i : Nat} {body suite : List Stmt} {b₀ : Stmt} {np pos pos' : Pos} {tb : WX → TS} {ts : Addr → Value → Option Addr → TS} {Wout : WX} (hst : X.stack = X.env :: X.outer) (hfr : X.env.frame = some X.env.locals) (hex : X.ex = [])
    (nd : X.N.Nodup) (hi : X.N[i]? = some n) (hk : X.env.kindOf n = some .local) (hc : Names X x c) (tk : Takes X Wout)
    (hb : ∀ (W : WX) (pn : List (Addr × Obj)) (xe : Value → Shared → Prop), Takes (X.tr pn xe) W → PassesOwn (model X.prog X.w) X.A X.env xe → PSs (X.tr pn xe) body (tb W))
    (hsu : ∀ (a : Addr) (oe : Obj) (cls : Value) (d : Option Addr) (pn : List (Addr × Obj)), Zc cls d oe → (∃ vs, oe.data = .fields vs) → PSs (X.suite a ((a, oe) :: pn)) (b₀ :: suite) (ts a cls d)) :
    PS X (.Try body [.ExceptHandler (some (.Name x np)) (some n) (b₀ :: suite) pos'] [] [] pos) (fun D τ G => tb (wKept X.K c i ts Wout D) D τ G) := by
  refine ⟨fun pins s τ G D I told => ?_⟩
  have frm : X.A.frames = some (X.env :: X.outer) := I.ok.frames.trans (congrArg some hst)
  refine wpAny_Try_except (wpAny_mono ((hb (wKept X.K c i ts Wout D) (X.pn ++ pins) _ (fun u s' air => ?_) PassesOwn.looking).run [] s τ G D (I.toTry _) told) (fun fl s1 out => ?_) fun _ _ z => z)
  rotate_left
  · cases fl with
    | next =>
      obtain ⟨τ', G', J, q⟩ := out
      exact wpAny_execs_nil ⟨τ', G', J.ofTry I.ok, q⟩
    | ret v =>
      obtain ⟨y, τ', G', J, r, q⟩ := out
      exact ⟨y, τ', G', J.ofTry I.ok, r, q⟩
    | brk =>
      obtain ⟨τ', G', J, q⟩ := out
      exact ⟨τ', G', J.ofTry I.ok, q⟩
    | cont =>
      obtain ⟨τ', G', J, q⟩ := out
      exact ⟨τ', G', J.ofTry I.ok, q⟩
  obtain ⟨a, B, sI, qs, τ', G', cls, d, rfl, J0, nb, ups, sky, na, os, ag, b, known, no, yes⟩ := air
  have J : Inv X pins τ' G' sI := J0.ofTry I.ok
  rw [hst] at sky
  have noB : B.get? a = none := by
    rcases sky with k | k | k
    · exact k.2.1
    · exact k.2.1
    · exact k.2.1
  show wpAny (model X.prog X.w) X.A (noteFrame (.ref a) X.env) _ _ _
  refine Sky.land Zc.steady frm hfr sky fun h3 fly3 up3 => ?_
  have J3 : Inv X pins τ' G' { s' with heap := h3 } := J.landed nb fly3.1 (ups.trans up3) os ag
  obtain ⟨o3, w3, at3, z3, f3⟩ := fly3.there
  have away : a ∉ frs (X.env :: X.outer) := fun hm => by
    obtain ⟨_, o', e', hnf⟩ := fly3.2.2.1.mem hm
    rw [at3] at e'
    cases e'
    exact hnf _ f3
  have nL : a ≠ X.env.locals := fun y => away (List.mem_filterMap.mpr ⟨X.env, List.mem_cons_self, by rw [hfr, y]⟩)
  have nF : a ∉ X.fs := fun hm => by
    obtain ⟨e, he, q⟩ := List.mem_filterMap.mp hm
    exact away (List.mem_filterMap.mpr ⟨e, List.mem_cons_of_mem _ he, q⟩)
  have nI : sI.heap.get? a = none := by
    cases q : sI.heap.get? a with
    | none => rfl
    | some o =>
      have r := nb a o q (by rw [hst]; exact away)
      rw [noB] at r
      cases r
  have n0 : X.s_0.heap.get? a = none := by
    cases q : X.s_0.heap.get? a with
    | none => rfl
    | some o =>
      obtain ⟨o', r⟩ := J.base.there a o q (by rw [hex]; exact fun y => nomatch y)
      rw [nI] at r
      cases r
  have apart : ∀ p ∈ X.pn ++ pins, p.1 ≠ a := fun p hp y => by
    have r := (J.pin p hp).1
    rw [y, nI] at r
    cases r
  have S3 := J3.suite at3 f3 na nL nF
  refine wpAny_handleBy_cons (codeAny_handlers_test ?_) (by intro q; cases q)
  have look : PySem.W.Looks (model X.prog X.w) h3 (typeOf (.ref a)) cls := fun A Q E s k q => wpAny_typeOf_ref (k _ _ at3) (by rw [z3.1]; exact q)
  have ask : ∀ {Q : Value → Shared → Prop} {E : Value → Shared → Prop}, Q c { s' with heap := h3 } → wpAny (model X.prog X.w) (X.A.mark (some (.ref a))) (eval (.Name x np) X.env) Q E { s' with heap := h3 } := fun {Q E} q => by
    obtain ⟨hg, hdb, hm | ⟨hm, hv, hnn⟩⟩ := hc
    · exact ld_glob (X := X.suite a ((a, o3) :: (X.pn ++ pins))) S3 hg hm q hdb
    · exact ld_blt (X := X.suite a ((a, o3) :: (X.pn ++ pins))) S3 hg hm hv q hnn hdb
  refine ask ((PySem.W.exm_one (M := model X.prog X.w) J3.kIn look known).here ?_)
  cases b with
  | false =>
    show wpAny _ X.A (handleBy (.ref a) X.env []) _ _ _
    refine wpAny_handleBy_nil ?_
    obtain ⟨_, _, _, oe, vs, T, oT, us, he, _, hd, h1, _⟩ := id fly3
    unfold PySem.passOn
    refine wpAny_bind (wpAny_field he hd h1 ?_)
    rw [if_neg (show ¬ ((Value.ref T == Value.none) = true) from by simp)]
    have on : wpAny (model X.prog X.w) X.A (setFlight (.ref a) X.env.frame) (fun _ s4 => wpAny (model X.prog X.w) X.A (throw (.ref a) : Sem Flow) (SP X pins D) X.xe s4) X.xe { s' with heap := h3 } := by
      rw [hfr]
      refine HandSPX.setFlight_upZ fly3 fun h4 held up4 => wpAny_throw (tk _ _ ⟨a, B, sI, pins, τ', G', cls, d, rfl, J, nb, (ups.trans up3).trans up4, .inr (.inr ?_), na, os, ag, no rfl⟩)
      rw [hst]
      exact held
    first
      | exact wpAny_bind (wpAny_pure (wpAny_bind on))
      | exact wpAny_bind on
  | true =>
    refine codeAny_handlers_suite_as (HandSPX.lands_againZ fly3 fun h4 fly4 up4 => ?_)
    have J4 : Inv X pins τ' G' { s' with heap := h4 } := J.landed nb fly4.1 ((ups.trans up3).trans up4) os ag
    obtain ⟨o4, w4, at4, z4, f4⟩ := fly4.there
    have S4 := J4.suite at4 f4 na nL nF
    refine store_ok (X := X.suite a ((a, o4) :: (X.pn ++ pins))) (v := .ref a) S4 nd hi (.inl hk) rfl (fun s5 S5 => ?_) (.inr hk)
    refine wpAny_mono ((hsu a o4 cls d (X.pn ++ pins) z4 ⟨_, f4⟩).run [] s5 _ G' _ S5 (yes rfl a na)) (fun fl s6 out => ?_) fun _ _ z => False.elim z
    cases fl with
    | next =>
      obtain ⟨τ6, G6, S6, q6⟩ := out
      refine gone_ok (X := X.suite a ((a, o4) :: (X.pn ++ pins))) S6 nd hi hk fun s7 S7 => ?_
      have p7 := S7.pin (a, o4) (List.mem_append_left _ List.mem_cons_self)
      exact ⟨_, _, hold_ex (S7.unsuite I.ok) p7.1 z4 f4 p7.2.1 n0 nL apart, q6⟩
    | ret v =>
      obtain ⟨_, _, _, _, _, q6⟩ := out
      exact q6.elim
    | brk =>
      obtain ⟨_, _, _, q6⟩ := out
      exact q6.elim
    | cont =>
      obtain ⟨_, _, _, q6⟩ := out
      exact q6.elim
end
/-! ### isinstance of a caught error, its fields -/
section
open PySem.W PySem.Calls
variable {prog : Program} {w : World} {A : Around} {E : Value → Shared → Prop} {K : Frag}
theorem found_class {C : Addr} {od : Option Obj} (c : ExcC K C) : findObj K C od "__class__" = some (.bind (.builtin "getset_descriptor.__get__") (.builtin "object.__class__")) := by
  obtain ⟨cd, hc, _⟩ := any_some c.hd
  unfold findObj
  rw [hc, Option.bind_some, c.ha]
  simp [c.hn, c.ht]
/-- e.__class__ of an error of an own class, with or without a dict -/
theorem class_of_error {a C : Addr} {o : Obj} {od : Option Obj} {s : Shared} {Q : Option Value → Shared → Prop} (c : ExcC K C) (X : K.In s.heap) (J : InstAt s.heap a o C od) (q : Q (some (.ref C)) { s with toks := s.toks + 1 }) :
    wpAny (model prog w) A (getAttr? (.ref a) "__class__") Q E s := by
  obtain ⟨hp, gs, dr, tk, os⟩ := s
  have ty := J.type (M := model prog w)
  have ga := looks_findIn (M := model prog w) X c.hg
  have gg := looks_findIn (M := model prog w) X c.hk
  have fd := looks_find (M := model prog w) X J (found_class (od := od) c)
  have isB : Looks (model prog w) hp (isInstance (.ref a) (.type "BaseException")) true := ty.andThen (looks_subIn X c.hs)
  have e0 : (Value.builtin "BaseException.__getattribute__" == Value.builtin "object.__getattribute__") = false := by decide +kernel
  have e1 : (onTheHeap (Value.ref C) && Value.builtin "BaseException.__getattribute__" == Value.builtin "object.__getattribute__") = false := (congrArg (onTheHeap (Value.ref C) && ·) e0).trans (Bool.and_false _)
  unfold getAttr? getAttrBy? getAttrBy
  refine wpAny_bind (wpAny_mkText (wpAny_bind (wpAny_attempt (wpAny_holding (wpAny_bind (ty.at (wpAny_bind (ga.at ?_))))))))
  show wpAny _ _ (ite ((onTheHeap (Value.ref C) && Value.builtin "BaseException.__getattribute__" == Value.builtin "object.__getattribute__") = true) _ _) _ _ _
  rw [e1]
  refine (?_ : wpAny _ _ (getAttrByItsOwn _ _ _ _ _ _) _ _ _)
  unfold getAttrByItsOwn hookBefore
  refine wpAny_bind ?_
  rw [if_pos (show onTheHeap (Value.ref C) = true by rfl)]
  refine gg.at (wpAny_bind (wpAny_attempt (wpAny_holding ?_)))
  unfold callGetattribute
  rw [show (false && onTheHeap (Value.builtin "BaseException.__getattribute__")) = false from rfl, if_neg Bool.false_ne_true]
  unfold boundAndCalled
  rw [PySem.F.excAttr_ValueError.ga.bind (.ref a)]
  refine wpAny_bind (wpAny_pure (?_ : wpAny _ _ (call (.builtin "BaseException.__getattribute__") [.ref a, .str "__class__" tk]) _ _ _))
  refine wpAny_call (codeAny_call_builtin PySem.F.excAttr_ValueError.ga.plain PySem.F.entry_bexc_ga (@check_slot (model prog w) _ _ ⟨hp, gs, dr, tk + 1, os⟩ "BaseException.__getattribute__" "BaseException" "__getattribute__" (.ref a) [.str "__class__" tk] [] _
    (by decide +kernel) (by decide +kernel) isB (PySem.F.args_bexc_ga (.ref a) (.str "__class__" tk)) ?_))
  unfold Builtin.«object.__getattribute__»
  refine wpAny_bind (wpAny_of_eq (a := ((Value.ref a : Value), [Value.str "__class__" tk])) (by first | rfl | (simp only [slotArgs]; rfl)) (wpAny_bind (wpAny_pure (wpAny_bind (ty.at (wpAny_bind (fd.at ?_)))))))
  refine wpAny_bind (?_ : wpAny _ _ (holding [Value.builtin "object.__class__"] (call (.builtin "getset_descriptor.__get__") [.builtin "object.__class__", .ref a, .ref C])) _ _ _)
  refine wpAny_holding (wpAny_call (class_get (s := ⟨hp, gs, dr, tk + 1, os⟩) (ox := o) (od := od) X J c.hm (wpAny_pure (?_ : wpAny _ _ (handedOut (.ref C)) _ _ _))))
  rw [handedOut_of (v := .ref C) rfl]
  first
    | exact wpAny_pure (wpAny_pure q)
    | exact wpAny_pure q
    | exact wpAny_pure (wpAny_bind (wpAny_pure (wpAny_pure q)))
theorem kit_error {a C : Addr} {o : Obj} {od : Option Obj} (c : ExcC K C) : KitX K (.ref a) (.ref C) (fun h => InstAt h a o C od) := by
  have at_ : ∃ dd sl cd, K.lookup C = some ⟨.type "type", dd, .cls cd, sl⟩ ∨ ∃ k, K.lookup C = some ⟨k, dd, .cls cd, sl⟩ := by
    obtain ⟨cd, hc, _⟩ := any_some c.hd
    unfold clsIn at hc
    split at hc
    · rename_i k dd cd' sl e
      exact ⟨dd, sl, cd', .inr ⟨k, e⟩⟩
    · cases hc
  obtain ⟨dd, sl, cd, at_⟩ := at_
  have at2 : ∃ k, K.lookup C = some ⟨k, dd, .cls cd, sl⟩ := at_.elim (fun e => ⟨_, e⟩) id
  obtain ⟨k, e⟩ := at2
  exact
    { ty := fun _ _ _ J => J.type
      it := fun _ _ X _ A Q E s k q => by
        unfold isType loadHead
        exact wpAny_bind (wpAny_loadPart (k _ _ (X _ _ e)) (wpAny_pure q))
      ne := fun h tp d its n sl X htp => by
        cases q : (Value.ref C == Value.ref tp) with
        | false => rfl
        | true =>
          have z : C = tp := Value.ref.inj (beq_iff_eq.mp q)
          subst z
          have y := (X _ _ e).symm.trans htp
          cases y
      ca := fun X J q => class_of_error c X J q }
end
section
variable {X : Cx}
/-- isinstance(e, C) of a caught error e -/
def rIsX (K : PySem.W.Frag) : List V → Hp → VK → Prop := fun vs H Q => ∃ (a C D : Addr) (d : Option Addr) (b : Bool), vs = [.ref a, .ref D] ∧ H a = some (ExH (.ref C) d a) ∧ (d.isSome = true → ∃ dd fs, d = some dd ∧ H dd = some (.xd fs)) ∧ ExcC K C ∧ PySem.W.kitOne K (.ref C) (.ref D) = some b ∧ Q (.bl b) H
theorem inst_ex {pins : List (Addr × Obj)} {σ : L2.St} {H : Hp} {s : Shared} {a C : Addr} {d : Option Addr} (I : Inv X pins σ H s) (e : H a = some (ExH (.ref C) d a)) (hd : d.isSome = true → ∃ dd fs, d = some dd ∧ H dd = some (.xd fs)) :
    ∃ o od, PySem.W.InstAt s.heap a o C od ∧ (∀ dd fs, d = some dd → H dd = some (.xd fs) → ∃ ob mA, od = some ob ∧ s.heap.Ns1 dd mA ∧ s.heap.get? dd = some ob ∧ (∀ f, RelO (fs.lookup f) (mA f)) ∧ ∀ f, PySem.W.lookIn f ob = some (mA f)) := by
  obtain ⟨o, vs, h1, h2, h3⟩ := exH_at I e
  have hn : PySem.W.notCls o = true := by unfold PySem.W.notCls; rw [h3] <;> rfl
  cases d with
  | none => exact ⟨o, none, ⟨h1, h2.1, hn, by rw [h2.2]; exact True.intro⟩, fun dd fs z => nomatch z⟩
  | some d =>
    obtain ⟨dd, fs, ed, e2⟩ := hd rfl
    cases ed
    obtain ⟨mA, hns, hr⟩ : ObjOk X.prog X.w H s.heap d (.xd fs) := I.hok d _ e2
    obtain ⟨od, ho, hl⟩ := lookIn_ns hns
    refine ⟨o, some od, ⟨h1, h2.1, hn, by rw [h2.2]; exact ho⟩, fun dd fs' z y => ?_⟩
    cases z
    rw [e2] at y
    cases y
    exact ⟨od, mA, rfl, hns, ho, hr, fun f => hl f⟩
theorem cu_isX : CallR X (.builtin "isinstance") (rIsX X.K) := by
  intro pins s σ H xs us Q I r h
  obtain ⟨a, C, D, d, b, rfl, ha, hd, c, k, q⟩ := h
  obtain ⟨u1, u2, rfl, r1, r2⟩ := vals2 r
  cases (show u1 = Value.ref a from r1)
  cases (show u2 = Value.ref D from r2)
  obtain ⟨o, od, J, _⟩ := inst_ex I ha hd
  exact PySem.W.kia_one (kit_error c) I.kIn J k (fun z => nomatch z) fun tk => ⟨.bl b, H, I.tok tk, rfl, q⟩
/-- e.f of a caught error e -/
def mXf (K : PySem.W.Frag) (f : Str) (te : TE) : TE := fun σ H Q => te σ H fun x H1 => ∃ (a C d : Addr) (fs : List (Str × V)) (v : V), x = .ref a ∧ H1 a = some (ExH (.ref C) (some d) a) ∧ H1 d = some (.xd fs) ∧ XfC K C ∧ PySem.W.findIn K (.ref C) f = some none ∧ fs.lookup f = some v ∧ Q v H1
theorem ue_xf {e : Expr} {te : TE} {pos : Pos} {f : Str} (he : PE X e te) (hb : attributeBase e f X.env (eval e X.env) = eval e X.env := by rfl) : PE X (.Attribute e f pos) (mXf X.K f te) := by
  refine ⟨fun pins s σ H Q I h => attr_of hb (thn (he.run pins s σ H _ I h) fun u s1 hh => ?_)⟩
  obtain ⟨x, H1, I1, rx, a, C, d, fs, v, rfl, ea, ed, T, no, l, q⟩ := hh
  obtain rfl : u = Value.ref a := rx
  obtain ⟨o, od, J, more⟩ := inst_ex I1 ea fun _ => ⟨d, fs, rfl, ed⟩
  obtain ⟨ob, mA, rfl, _, _, hr, hl⟩ := more d fs rfl ed
  obtain ⟨u, hu, ru⟩ := RelO.some_of (v := v) (o := mA f) (by rw [← l]; exact hr f)
  exact HandSPX.exc_get I1.kIn J T.ga T.gg T.exC (PySem.W.findObj_own T.hdC no rfl (by rw [hl, hu])) (handed_of ru) ⟨v, H1, I1.tok _, ru, q⟩
end
end
end GW

/-! own error classes raised; lambdas handed to a def that hears -/
namespace GW
section
open PySem PySem.Spec PyProof.Rows L2
/-! ### an own error class -/
structure ErrC (K : PySem.W.Frag) (C : Addr) : Prop where
  ox : OexC K C
  xf : XfC K C
  xc : ExcC K C
  iC : PySem.W.findIn K (.ref C) "__init__" = some (some (.ref (He.ma K C "__init__")))
  tI : PySem.W.typeIn K (.ref (He.ma K C "__init__")) = some (.type "function")
def errB1 (K : PySem.W.Frag) (C : Addr) : Bool := match K.lookup C with
  | some ⟨.type t, _, .cls cd, sl⟩ => (match cd.mro, sl.toList with
    | .ref D :: bm, [_, _, _, _, some (.builtin n), _] => decide (t = "type") && (D == C && (n == "ValueError.__new__" && (!cd.hasDel && (cd.hasDict && PySem.HandSPX.refsVE bm))))
    | _, _ => false)
  | _ => false
def errB2 (K : PySem.W.Frag) (C : Addr) : Bool :=
  He.eqO (PySem.W.findIn K (.ref C) "__setattr__") (some (some (.builtin "object.__setattr__"))) && (decide (PySem.W.subIn K (.ref C) (.type "BaseException") = some true) && (decide (PySem.W.typeIn K (.ref C) = some (.type "type")) && (PySem.W.keepIn K (.ref C) &&
  (He.eqO (PySem.W.findIn K (.ref C) "__getattribute__") (some (some (.builtin "BaseException.__getattribute__"))) && (He.eqO (PySem.W.findIn K (.ref C) "__getattr__") (some none) && (PySem.W.hasDictIn K C &&
  (He.eqO (PySem.W.findIn K (.ref C) "__class__") (some (some (.builtin "object.__class__"))) && (He.eqO (PySem.W.specialIn K (.builtin "object.__class__") "__get__") (some (some (.builtin "getset_descriptor.__get__"))) &&
  (decide (PySem.W.takesIn K (.builtin "object.__class__") = some true) && (decide (PySem.W.mroIn K C (.type "object") = some true) &&
  (He.eqO (PySem.W.findIn K (.ref C) "__init__") (some (some (.ref (He.ma K C "__init__")))) && decide (PySem.W.typeIn K (.ref (He.ma K C "__init__")) = some (.type "function")))))))))))))
def errB (K : PySem.W.Frag) (C : Addr) : Bool := errB1 K C && errB2 K C
theorem errB1_ok {K : PySem.W.Frag} {C : Addr} (h : errB1 K C = true) : ∃ nm q N bs bm sn sub ab col dd k0 k1 k2 k3 k5, K.lookup C = some (excClassObj nm q C N bs bm true sn sub ab col dd k0 k1 k2 k3 k5 "ValueError.__new__") ∧ PySem.HandSPX.refsVE bm = true := by
  unfold errB1 at h
  cases e : K.lookup C with
  | none => rw [e] at h; cases h
  | some o =>
    rw [e] at h
    obtain ⟨oc, od, dt, sl⟩ := o
    cases oc with
    | type t =>
      cases dt with
      | cls cd =>
        obtain ⟨nm, bs, mro, ns, qn, hd, sn, sub, ab, col, del⟩ := cd
        obtain ⟨sl⟩ := sl
        dsimp only at h
        match mro, sl, h with
        | .ref D :: bm, [k0, k1, k2, k3, some (.builtin n), k5], h =>
          obtain ⟨h1, h⟩ := He.ba h
          obtain ⟨h2, h⟩ := He.ba h
          obtain ⟨h3, h⟩ := He.ba h
          obtain ⟨h4, h⟩ := He.ba h
          obtain ⟨h5, h6⟩ := He.ba h
          have e1 : t = "type" := of_decide_eq_true h1
          have e2 : D = C := beq_iff_eq.mp h2
          have e3 : n = "ValueError.__new__" := beq_iff_eq.mp h3
          have e4 : del = false := by simpa using h4
          have e5 : hd = true := h5
          subst e1 e2 e3 e4 e5
          exact ⟨nm, qn, ns, bs, bm, sn, sub, ab, col, od, k0, k1, k2, k3, k5, rfl, h6⟩
      | _ => cases h
    | _ => cases dt <;> cases h
theorem errB_ok {K : PySem.W.Frag} {C : Addr} (h : errB K C = true) : ErrC K C := by
  obtain ⟨h0, h⟩ := He.ba h
  obtain ⟨a1, h⟩ := He.ba h
  obtain ⟨a2, h⟩ := He.ba h
  obtain ⟨a3, h⟩ := He.ba h
  obtain ⟨a4, h⟩ := He.ba h
  obtain ⟨a5, h⟩ := He.ba h
  obtain ⟨a6, h⟩ := He.ba h
  obtain ⟨a7, h⟩ := He.ba h
  obtain ⟨a8, h⟩ := He.ba h
  obtain ⟨a9, h⟩ := He.ba h
  obtain ⟨b1, h⟩ := He.ba h
  obtain ⟨b2, h⟩ := He.ba h
  obtain ⟨b3, b4⟩ := He.ba h
  have a2' := of_decide_eq_true a2
  exact ⟨⟨errB1_ok h0, He.eqO_ok a1, a2', of_decide_eq_true a3, a4⟩, ⟨He.eqO_ok a5, He.eqO_ok a6, a2', a7⟩, ⟨He.eqO_ok a5, He.eqO_ok a6, a2', a7, He.eqO_ok a8, He.eqO_ok a9, of_decide_eq_true b1, of_decide_eq_true b2⟩, He.eqO_ok b3, of_decide_eq_true b4⟩
/-- what its __init__ does: the fields fs are told, in that order -/
def spErr (K : PySem.W.Frag) (fs : List Str) : Sp := fun vs H Q _ => ∃ (a C : Addr) (ws : List V), vs = .ref a :: ws ∧ ws.length = fs.length ∧ OexC K C ∧ (∀ f ∈ fs, PySem.W.findIn K (.ref C) f = some none) ∧ H a = some (exo a C none) ∧
  ∀ d, H d = none → d ≠ a → Q .non (upd (upd H d (exd d (fs.zip ws).reverse)) a (exo a C (some d)))
theorem ln_err {K : PySem.W.Frag} {p : Str} {fs ps : List Str} (hl : ps.length = fs.length) : ∀ vs H Q E, spErr K fs vs H Q E → vs.length = (p :: ps).length := fun vs H Q E ⟨a, C, ws, e, l, _⟩ => by
  rw [e, List.length_cons, List.length_cons, l, hl]
theorem pu_err1 {K : PySem.W.Frag} {n f : Str} : ∀ (vs : List V) (H : Hp) (Q : VK) (E : XK), spErr K [f] vs H Q E → tOst K f (mVar 0) (mVar 1) { nx := fun _ H' => Q .non H', rt := Q } (L2.start ["self", n] vs) H := by
  rintro vs H Q E ⟨a, C, ws, rfl, l, c, no, e, q⟩
  match ws, l with
  | [v], _ => exact ⟨a, C, rfl, c, no f (List.mem_singleton.mpr rfl), .inl ⟨e, fun d h1 h2 => q d h1 h2⟩⟩
theorem pu_err2 {K : PySem.W.Frag} {n m f g : Str} : ∀ (vs : List V) (H : Hp) (Q : VK) (E : XK), spErr K [f, g] vs H Q E → tSeq (tOst K f (mVar 0) (mVar 1)) (tOst K g (mVar 0) (mVar 2)) { nx := fun _ H' => Q .non H', rt := Q } (L2.start ["self", n, m] vs) H := by
  rintro vs H Q E ⟨a, C, ws, rfl, l, c, no, e, q⟩
  match ws, l with
  | [v, u], _ =>
    refine ⟨a, C, rfl, c, no f (by simp), .inl ⟨e, fun d h1 h2 => ?_⟩⟩
    refine ⟨a, C, rfl, c, no g (by simp), .inr ⟨d, [(f, v)], upd_same, (upd_ne h2).trans upd_same, Nat.le_of_ble_eq_true rfl, ?_⟩⟩
    have q' := q d h1 h2
    have e' : upd (upd (upd H d (exd d [(f, v)])) a (exo a C (some d))) d (exd d [(g, u), (f, v)]) = upd (upd H d (exd d [(g, u), (f, v)])) a (exo a C (some d)) := by
      funext b
      unfold upd
      by_cases x : b = d
      · have y : ¬ b = a := fun z => h2 (x.symm.trans z)
        simp [x, h2]
      · simp [x]
    exact e'.symm ▸ q'
/-- the class x: its __init__ keeps spErr -/
structure CalE (P : Program) (w : World) (K : PySem.W.Frag) (mg : Str → Option Value) (base : Heap) (x : Str) (k : Nat) (ps fs : List Str) : Prop where
  c : ErrC K (He.ga K x)
  no : ∀ f ∈ fs, PySem.W.findIn K (.ref (He.ga K x)) f = some none
  at_ : mg x = some (.ref (He.ga K x))
  fn : ∃ fd, FnOk P w K mg base CX0 k (He.ma K (He.ga K x) "__init__") fd ps (spErr K fs) ∧ Binds K fd ps []
/-- raise x(e, ..) -/
def tRaise (K : PySem.W.Frag) (x : Str) (fs : List Str) (ta : TA) (W : WX) : TS := fun _ σ H => ta σ H fun vs H1 => vs.length = fs.length ∧ ∀ d, H1 d = none → W (.ref (He.ga K x)) (some d) σ (upd H1 d (.xd (fs.zip vs).reverse))
theorem made_at {H1 : Hp} {a d : Addr} {o o1 o2 u : HO} (na : H1 a = none) (h : d ≠ a) : upd (del (upd (upd (upd H1 a o) d o1) a o2) a) d u = upd H1 d u := by
  funext b
  unfold upd del
  by_cases x : b = d
  · simp only [if_pos x]
  · simp only [if_neg x]
    by_cases y : b = a
    · simp only [if_pos y]
      rw [y, na]
    · simp only [if_neg y]
/-- the same question, asked with a weaker answer -/
def upA (ta : TA) : TA := fun σ H Q => ∃ R : List V → Hp → Prop, ta σ H R ∧ ∀ vs H1, R vs H1 → Q vs H1
theorem ue_raise {X : Cx} {W : WX} {x : Str} {k : Nat} {ps fs : List Str} {e : Expr} {es : List Expr} {ta : TA} {p pos pos' : Pos} (F : CalE X.prog X.w X.K X.mg X.base x k ps fs) (hf : fs.length ≤ 1000) (hr : Room (k + 1) X.A) (hc : X.calm = true) (tk : Takes X W) (hg : Gl X x) (ha : PA X (e :: es) ta)
    (hdb : (x == ("__debug__" : Str)) = false := by decide) (he : starEach (e :: es) X.env = (false, eval e X.env) :: starEach es X.env := by rfl) (hpl : (backTo pos (starEach es X.env)).any (·.1) = false := by rfl) :
    PS X (.Raise (some (.Call (.Name x p) (e :: es) [] pos)) none pos') (tRaise X.K x fs ta W) := by
  obtain ⟨fd, F1, hb⟩ := F.fn
  have hu : PA X (e :: es) (upA ta) := ⟨fun q pins s σ H Q I ⟨R, h, im⟩ => wpAny_mono (ha.run q pins s σ H R I h) (fun us s' ⟨vs, H', J, r, z⟩ => ⟨vs, H', J, r, im vs H' z⟩) fun _ _ z => z⟩
  have r := ps_raise (pos := pos') hc tk (pmk_oex (p := p) (dvs := []) (ds := []) F.c.ox F.c.iC F.c.tI F1 hr hb .nil pass0 hg F.at_ hu hdb he hpl)
  refine ⟨fun pins s σ H D I h => r.run pins s σ H D I ⟨_, h, fun vs H1 ⟨l, q⟩ => ⟨by rw [l]; exact hf, fun a na => ?_⟩⟩⟩
  refine ⟨a, He.ga X.K x, vs, by rw [List.append_nil], l, F.c.ox, F.no, upd_same, fun d nd hd => ⟨rfl, d, (fs.zip vs).reverse, upd_same, (upd_ne hd).trans upd_same, ?_, ?_⟩⟩
  · rwa [upd_ne hd] at nd
  · rw [upd_ne hd] at nd
    rw [made_at na hd]
    exact q d nd
/-! ### a lambda handed to a def that hears -/
section
open LamX
variable {X : Cx} {pins : List (Addr × Obj)} {σ : L2.St} {H : Hp} {s : Shared}
/-- the def x at g, running, called from X at s -/
abbrev inX (X : Cx) (N : List Str) (x : Str) (sc : Scope) (g : Addr) (cd : Value) (s : Shared) (H : Hp) : Cx := (cxOf C8.CX0 X.prog X.w X.K X.mg X.base N x sc g cd X.A X.stack s H C8.E0).nox
/-- what the body asks: the slot i holds the lambda f, its code object stands; T: the lambda's body -/
def mAct (i : Nat) (f c' : Addr) (q : Str) (T : XK → Hp → VK → Prop) (W : WX) : TE := fun τ G Q => τ[i]? = some (some (.ref f)) ∧ G c' = some (CodeO c' q) ∧ ∃ E : XK, (∀ cls d G', E cls d G' → W cls d τ G') ∧ T E G Q
theorem ue_act {x a : Str} {N : List Str} {sc scope : Scope} {g f c' : Addr} {cd pm ctv : Value} {params : Arguments} {body : Expr} {k i : Nat} {pn : List (Addr × Obj)} {xe : Value → Shared → Prop} {W : WX} {t : XK → TE} {p1 p2 : Pos}
    (I : Inv X pins σ H s) (L : LamS X.env.scope scope) (at_ : s.heap.get? f = some (PySem.W.kla_obj "<lambda>" (X.env.qual ++ "<lambda>") params body scope (cloFrom X.env.cells scope.names []) pm c' ctv)) (hid : H f = none) (off : f ∉ frs X.stack)
    (bound : bindArgs (PySem.W.kla_fn "<lambda>" (X.env.qual ++ "<lambda>") params body scope (cloFrom X.env.cells scope.names []) pm (.ref c') ctv) ⟨[], []⟩ = pure [])
    (tk : Takes ((inX X N x sc g cd s H).tr pn xe) W) (room : Room (k + 1) (X.A.deeper (envOfC x sc s.heap.objs.size g cd)))
    (hbody : ∀ (A : Around) (outer : List Env) (s : Shared) (H : Hp) (E : XK), Room k (A.deeper (lamEnv X scope s.heap.objs.size f c')) → PE (lamCx X A outer s H E scope f c') body (t E))
    (hN : N[i]? = some a) (vis : Vis sc a) (hd : (a == ("__debug__" : Str)) = false) (hcd : (a == ("__classdict__" : Str)) = false) :
    PE ((inX X N x sc g cd s H).tr pn xe) (.Call (.Name a p1) [] [] p2) (mAct i f c' (X.env.qual ++ "<lambda>") (fun E G Q => t E σ G Q) W) := by
  constructor
  rintro qs z τ G Q J ⟨held, code, E, up, told⟩
  have name : PE ((inX X N x sc g cd s H).tr pn xe) (.Name a p1) _ := pe_var (i := i) hN vis hd hcd
  refine wpAny_Call_Name_kw (thn (name.run qs z τ G (fun v G1 => v = .ref f ∧ G1 = G) J ⟨_, held, rfl, rfl⟩) fun u z1 ⟨v, G1, J1, ru, ev, eG⟩ => ?_)
  rw [ev] at ru
  rw [eG] at J1
  obtain rfl : u = Value.ref f := ru
  have still := J1.base.keep f _ at_ hid off (fun y => nomatch (show f ∈ ([] : List Addr) from y))
  refine PySem.W.callWith_F0 ⟨_, _, _, _, still⟩ (wpAny_call (codeAny_mono (R := CR (L2.CX X.prog X.w) (envOfC x sc s.heap.objs.size g cd :: X.stack) X.prog X.w G z1 Q E) ?_ fun r z2 out => ?_))
  · refine (?_ : codeAny _ _ (.call (.ref f) ⟨[], []⟩) _ _)
    obtain ⟨⟨oc, ws, tk', hoc, hdc, hvc⟩, _⟩ := J1.hok c' _ code
    refine PySem.W.kla_callFunE room.depth still rfl L.co L.gen rfl ⟨c', oc, ws, tk', rfl, hoc, hdc, hvc⟩ ?_
    rw [bound]
    refine wpAny_pure (wpAny_newFunctionEnv (fun y hy => (L.own y hy).2) (fun y hy => absurd hy (by simp)) (fun h2 hns hsb => ⟨J1.nolimit.fresh _ hsb, ?_⟩) L.kind)
    have kp : ∀ b o, z1.heap.get? b = some o → h2.get? b = some o := fun b o e => hsb.extBut b o (Nat.ne_of_lt (Heap.lt_size e)) (Heap.get?_push_of_some _ e)
    have un : Un (frs X.stack) [] H G s.heap z1.heap := J1.base
    have start := lam_start2 (tk := z1.toks + ([] : List (Str × Value)).length) (A := X.A.deeper (envOfC x sc s.heap.objs.size g cd)) (outer := envOfC x sc s.heap.objs.size g cd :: X.stack) (E := E) (f := f) (c' := c') I L J1.env0 room.hd un hns kp
    refine PySem.W.kla_codeExpr (wpAny_mono ((hbody _ _ z1 G E (room.deeper _)).run [] _ σ G Q start told) (fun v z2 ⟨y, G2, K2, ry, q⟩ => ⟨y, G2, K2.os, K2.bare, K2.base, K2.hok, ry, q⟩) fun _ _ e => e)
  · cases r with
    | error e => exact tk e z2 (XE.of_call J1 (fun cls d G' y => up cls d G' y) out)
    | ok fl =>
      cases fl with
      | ret u => exact J1.after out
      | next => exact False.elim out
      | brk => exact False.elim out
      | cont => exact False.elim out
/-- the def that hears: what it makes of any lambda's reading -/
abbrev Hear : Type := (XK → Hp → VK → Prop) → Hp → VK → Prop
structure CalH (P : Program) (w : World) (K : PySem.W.Frag) (mg : Str → Option Value) (base : Heap) (x a : Str) (k : Nat) (ok : Around → Prop) (TT : Hear) : Prop where
  ex : ∃ (pg : Arguments) (bg : List Stmt) (sc : Scope) (dV kV doc pm cdv ct oc : Value) (an od : Option Addr) (osl : Array (Option Value)) (N : List Str),
    K.lookup (He.ga K x) = some ⟨oc, od, .func (PySem.W.fnOf x x pg bg sc dV kV doc pm an cdv ct), osl⟩ ∧ PySem.W.codeIn K cdv x = true ∧ Binds K (PySem.W.fnOf x x pg bg sc dV kV doc pm an cdv ct) [a] [] ∧ FnScope N [a] sc ∧ N[0]? = some a ∧ Vis sc a ∧
    ∀ (X : Cx), X.prog = P → X.w = w → X.K = K → X.mg = mg → X.base = base → ok X.A → Room (k + 1) X.A → ∀ (s : Shared) (H : Hp) (f c' : Addr) (q : Str) (T : XK → Hp → VK → Prop) (Q : VK),
      (∀ (W : WX) (pn : List (Addr × Obj)) (xe : Value → Shared → Prop) (p1 p2 : Pos), Takes ((inX X N x sc (He.ga K x) cdv s H).tr pn xe) W → PE ((inX X N x sc (He.ga K x) cdv s H).tr pn xe) (.Call (.Name a p1) [] [] p2) (mAct 0 f c' q T W)) →
      H c' = some (CodeO c' q) → TT T H Q → ∃ t, PSs (inX X N x sc (He.ga K x) cdv s H) bg t ∧ t { nx := fun _ H' => Q .non H', rt := Q } (L2.start N [.ref f]) H
  at_ : mg x = some (.ref (He.ga K x))
  kp : PySem.W.keepIn K (.ref (He.ga K x)) = true
/-- x(lambda: e) -/
def mLam (Tb : List (Addr × Str)) (TT : Hear) (t : XK → TE) : TE := fun σ H Q => Tabs Tb H ∧ ∀ H1, ExtN H H1 → Tabs Tb H1 → TT (fun E G Q' => t E σ G Q') H1 Q
theorem ue_lam {Tb : List (Addr × Str)} {TT : Hear} {x a : Str} {c P : Addr} {j k : Nat} {ok : Around → Prop} {params : Arguments} {body : Expr} {scope : Scope} {t : XK → TE} {p lpos pos : Pos} (F : CalH X.prog X.w X.K X.mg X.base x a j ok TT) (hok : ok X.A) (hg : Gl X x)
    (TB : TabB X.base X.mg c P) (hc : X.env.code = .ref c) (hm : (P, X.env.qual ++ "<lambda>") ∈ Tb) (hu : ∀ p ∈ Tb, p.1 = P → p.2 = X.env.qual ++ "<lambda>") (room : Room (k + 2) X.A) (room2 : Room (j + 1) X.A) (L : LamS X.env.scope scope) (hdef : defaultsOf params X.env = ([], []))
    (bound : ∀ (q : Str) (cl : List (Str × Addr)) (pm cv ctv : Value), bindArgs (PySem.W.kla_fn "<lambda>" q params body scope cl pm cv ctv) ⟨[], []⟩ = pure [])
    (hbody : ∀ (A : Around) (outer : List Env) (s : Shared) (H : Hp) (E : XK) (f c' : Addr), Room k (A.deeper (lamEnv X scope s.heap.objs.size f c')) → PE (lamCx X A outer s H E scope f c') body (t E))
    (hdb : (x == ("__debug__" : Str)) = false := by decide) (hd : (a == ("__debug__" : Str)) = false := by decide) (hcd : (a == ("__classdict__" : Str)) = false := by decide) :
    PE X (.Call (.Name x p) [.Lambda params body scope lpos] [] pos) (mLam Tb TT t) := by
  constructor
  rintro pins s σ H Q I ⟨tabs, told⟩
  obtain ⟨pg, bg, sc, dV, kV, doc, pm, cdv, ct, oc, an, od, osl, N, lk, hcd', hb, Sg, hN, hv, walk⟩ := F.ex
  refine wpAny_Call_Name_kw (ld_glob I hg F.at_ (PySem.W.callWith_K (h₀ := X.base) I.ok.mod.kin F.kp ?_ (by rfl) (by rfl)) hdb)
  refine (?_ : wpAny _ _ (spliced ((false, eval (.Lambda params body scope lpos) X.env) :: backTo pos (starEach [] X.env))) _ _ s)
  refine Calls.spliced_cons (lam_make2 I TB hc hm hu tabs hdef (L.has I.ok) fun f c' pm' ctv H1 s1 J ext T1 at_ hid off code => Calls.spliced_nil ⟨J.kIn, wpAny_call (codeAny_mono (R := CR C8.CX0 X.stack X.prog X.w H1 s1 Q C8.E0) ?_ fun r s2 out => ?_)⟩)
  · refine run_ofS (k := k + 1) (N := N) (ps := [a]) (us := [.ref f]) (vs := [.ref f]) lk hcd' Sg room J.env0 (hb s1 [.ref f] J.kIn rfl) (.cons rfl .nil) rfl fun room' => ?_
    obtain ⟨t', d, q⟩ := walk X rfl rfl rfl rfl rfl hok room2 s1 H1 f c' (X.env.qual ++ "<lambda>") (fun E G Q' => t E σ G Q') Q (fun W pn xe p1 p2 tk => ue_act (i := 0) J L at_ hid off (bound _ _ _ _ _) tk room' (fun A outer s H E r => hbody A outer s H E f c' r) hN hv hd hcd) code (told H1 ext T1)
    exact ⟨t', d.nox, q⟩
  · cases r with
    | error e => exact (show False from out).elim
    | ok fl =>
      cases fl with
      | ret u => exact J.after out
      | next => exact False.elim out
      | brk => exact False.elim out
      | cont => exact False.elim out
end
end
end GW

/-! written data read as data; a dict of ints that is written; a def with its code object -/
namespace GW
section
open PySem PySem.Spec PyProof.Rows L2
mutual
/-- the written value u is the datum -/
def kdp (K : PySem.W.Frag) : PyData → Value → Bool
  | .none, u => (match u with | .none => true | _ => false)
  | .bool b, u => (match u with | .bool c => b == c | _ => false)
  | .int i, u => (match u with | .int j _ => decide (j = i) | _ => false)
  | .str x, u => (match u with | .str y _ => decide (y = x) | _ => false)
  | .tuple ds, u => (match u with
    | .ref a => (match K.lookup a with
      | some ⟨.type c, _, .seq its _, _⟩ => decide (c = "tuple") && (Nat.ble its.toList.length sizeLine && kdpAll K ds its.toList)
      | _ => false)
    | _ => false)
  | .list ds, u => (match u with
    | .ref a => (match K.lookup a with
      | some ⟨.type c, none, .seq its _, _⟩ => decide (c = "list") && (Nat.ble its.toList.length sizeLine && kdpAll K ds its.toList)
      | _ => false)
    | _ => false)
  | _, _ => false
def kdpAll (K : PySem.W.Frag) : List PyData → List Value → Bool
  | [], us => us.isEmpty
  | d :: ds, us => (match us with | u :: vs => kdp K d u && kdpAll K ds vs | [] => false)
end
mutual
theorem kdp_ok {K : PySem.W.Frag} : ∀ (d : PyData) (u : Value), kdp K d u = true → ∃ v, L2.RelV v u ∧ ∀ H, Dp K H v d
  | .none, u, h => by
    unfold kdp at h
    cases u <;> first | exact ⟨.non, rfl, fun _ => .non⟩ | cases h
  | .bool b, u, h => by
    unfold kdp at h
    cases u <;> first | cases h | (rename_i c; have e : b = c := eq_of_beq h; subst e; exact ⟨.bl b, rfl, fun _ => .bl b⟩)
  | .int i, u, h => by
    unfold kdp at h
    cases u <;> first | cases h | (rename_i j t; have e : j = i := of_decide_eq_true h; subst e; exact ⟨.int j, ⟨t, rfl⟩, fun _ => .int j⟩)
  | .str x, u, h => by
    unfold kdp at h
    cases u <;> first | cases h | (rename_i y t; have e : y = x := of_decide_eq_true h; subst e; exact ⟨.str y, ⟨t, rfl⟩, fun _ => .str y⟩)
  | .tuple ds, u, h => by
    unfold kdp at h
    split at h
    · rename_i a
      split at h
      · rename_i c dd its n sl lk
        obtain ⟨h1, h⟩ := He.ba h
        obtain ⟨h2, h3⟩ := He.ba h
        have e := of_decide_eq_true h1
        subst e
        obtain ⟨vs, r, q⟩ := kdpAll_ok ds its.toList h3
        exact ⟨.ref a, rfl, fun H => .tup (.inr ⟨_, its, n, lk, rfl, rfl, by simpa using Nat.le_of_ble_eq_true h2, r⟩) (q H)⟩
      · cases h
    · cases h
  | .list ds, u, h => by
    unfold kdp at h
    split at h
    · rename_i a
      split at h
      · rename_i c its n sl lk
        obtain ⟨h1, h⟩ := He.ba h
        obtain ⟨h2, h3⟩ := He.ba h
        have e := of_decide_eq_true h1
        subst e
        obtain ⟨vs, r, q⟩ := kdpAll_ok ds its.toList h3
        exact ⟨.ref a, rfl, fun H => .lst (.inr ⟨_, its, n, lk, rfl, rfl, rfl, by simpa using Nat.le_of_ble_eq_true h2, r⟩) (q H)⟩
      · cases h
    · cases h
  | .dict _, u, h => by unfold kdp at h; cases h
theorem kdpAll_ok {K : PySem.W.Frag} : ∀ (ds : List PyData) (us : List Value), kdpAll K ds us = true → ∃ vs, Vals vs us ∧ ∀ H, DpAll K H vs ds
  | [], us, h => by
    unfold kdpAll at h
    cases us with
    | nil => exact ⟨[], .nil, fun _ => .nil⟩
    | cons _ _ => cases h
  | d :: ds, us, h => by
    unfold kdpAll at h
    cases us with
    | nil => cases h
    | cons u us =>
      obtain ⟨h1, h2⟩ := He.ba h
      obtain ⟨v, r, q⟩ := kdp_ok d u h1
      obtain ⟨vs, rs, qs⟩ := kdpAll_ok ds us h2
      exact ⟨v :: vs, .cons r rs, fun H => .cons (q H) (qs H)⟩
end
theorem relV_fun {v v' : V} {u : Value} (h : L2.RelV v u) (h' : L2.RelV v' u) : v = v' := by
  cases v <;> cases v' <;> first
    | rfl
    | (cases (show u = _ from h); cases h'; done)
    | (cases (show u = _ from h); cases h'; rfl)
    | (obtain ⟨t, rfl⟩ := h; obtain ⟨t', e⟩ := h'; cases e; rfl)
    | (obtain ⟨t, rfl⟩ := h; cases h'; done)
    | (obtain ⟨t', rfl⟩ := h'; cases h; done)
    | (obtain ⟨t', rfl⟩ := h'; obtain ⟨t, e⟩ := h; cases e; done)
theorem kdp_dp {K : PySem.W.Frag} {H : Hp} {d : PyData} {u : Value} {v : V} (h : kdp K d u = true) (r : L2.RelV v u) : Dp K H v d := by
  obtain ⟨v', r', q⟩ := kdp_ok d u h
  rw [relV_fun r r']
  exact q H
/-- the written dict at a: its int keys, their data -/
def kdI (K : PySem.W.Frag) (a : Addr) (kvs : List (Int × PyData)) : Bool := match K.lookup a with
  | some ⟨.type c, none, .dict es _, sl⟩ => decide (c = "dict") && (sl.isEmpty && kdes kvs es.toList)
  | _ => false
where kdes : List (Int × PyData) → List DictEntry → Bool
  | [], es => es.isEmpty
  | (i, d) :: r, es => (match es with
    | e :: es => (match e.key with | .int j _ => decide (j = i) | _ => false) && (decide (e.hash = hashInt i) && (kdp K d e.val && kdes r es))
    | [] => false)
/-- the datum at a key -/
def kgI : List (Int × PyData) → Int → Option PyData
  | [], _ => none
  | (j, d) :: r, i => if j = i then some d else kgI r i
theorem kdes_keys {P : Program} {w : World} {K : PySem.W.Frag} : ∀ {kvs : List (Int × PyData)} {es : List DictEntry}, kdI.kdes K kvs es = true → ∀ e ∈ es, ∃ k, (intKind P w).is k e.key = true ∧ e.hash = (intKind P w).hash k
  | [], es, h, e, he => by
    unfold kdI.kdes at h
    rw [List.isEmpty_iff.mp h] at he
    cases he
  | (i, d) :: r, [], h, e, he => by cases he
  | (i, d) :: r, x :: es, h, e, he => by
    unfold kdI.kdes at h
    obtain ⟨h1, h⟩ := He.ba h
    obtain ⟨h2, h⟩ := He.ba h
    obtain ⟨h3, h4⟩ := He.ba h
    rcases List.mem_cons.mp he with y | y
    · subst y
      refine ⟨i, ?_, of_decide_eq_true h2⟩
      split at h1
      · rename_i j t ek
        rw [ek, of_decide_eq_true h1]
        simp [intKind, Value.isInt]
      · cases h1
    · exact kdes_keys h4 e y
theorem kdes_find {P : Program} {w : World} {K : PySem.W.Frag} {i : Int} {d : PyData} : ∀ {kvs : List (Int × PyData)} {es : List DictEntry}, kdI.kdes K kvs es = true → kgI kvs i = some d → ∃ u, (es.find? fun e => (intKind P w).is i e.key).map (·.val) = some u ∧ kdp K d u = true
  | [], es, h, g => by cases g
  | (j, d') :: r, [], h, g => by cases h
  | (j, d') :: r, x :: es, h, g => by
    unfold kdI.kdes at h
    obtain ⟨h1, h⟩ := He.ba h
    obtain ⟨h2, h⟩ := He.ba h
    obtain ⟨h3, h4⟩ := He.ba h
    split at h1
    · rename_i j' t ek
      have ej : j' = j := of_decide_eq_true h1
      unfold kgI at g
      rw [List.find?_cons]
      by_cases y : j = i
      · rw [if_pos y] at g
        cases g
        have e1 : (intKind P w).is i x.key = true := by rw [ek, ej, y]; simp [intKind, Value.isInt]
        rw [e1]
        exact ⟨x.val, rfl, h3⟩
      · rw [if_neg y] at g
        have e1 : (intKind P w).is i x.key = false := by rw [ek, ej]; simp [intKind, Value.isInt, y]
        rw [e1]
        exact kdes_find h4 g
    · cases h1
/-- a[i], a written dict of ints -/
def oIxI (K : PySem.W.Frag) : R2 := fun x y H Q => match x, y with
  | .ref a, .int i => ∃ kvs d, kdI K a kvs = true ∧ kgI kvs i = some d ∧ ∀ v, (∀ H', Dp K H' v d) → Q v H
  | _, _ => False
theorem ux_I {X : Cx} : IxR X (oIxI X.K) := by
  intro value slice pins s σ H x y v u Q I rx ry h hs
  unfold oIxI at h
  split at h
  · rename_i a i
    obtain ⟨kvs, d, hk, hg, q⟩ := h
    obtain rfl : v = Value.ref a := rx
    obtain ⟨t, rfl⟩ := ry
    unfold kdI at hk
    split at hk
    · rename_i c es ep sl lk
      obtain ⟨h1, h⟩ := He.ba hk
      obtain ⟨h2, h3⟩ := He.ba h
      have e1 := of_decide_eq_true h1
      have e2 : sl = #[] := Array.isEmpty_iff.mp h2
      subst e1 e2
      obtain ⟨u, hu, hd⟩ := kdes_find (P := X.prog) (w := X.w) h3 hg
      obtain ⟨w', rw', dw⟩ := kdp_ok d u hd
      have hm : s.heap.MapOf (intKind X.prog X.w) a fun k => findBy (intKind X.prog X.w).is es k := ⟨_, es, ep, I.kIn a _ lk, ⟨rfl, rfl, rfl⟩, rfl, fun e he => kdes_keys h3 e (Array.mem_toList_iff.mpr he), fun _ => rfl⟩
      have hf : findBy (intKind X.prog X.w).is es i = some u := by
        unfold findBy
        rw [← hu]
        simp
      exact tail_any hm.typeIs PySem.F.slot_dict_getitem.lookup (wpAny_getItem_of (k := i) (by simp [intKind, Value.isInt]) hm hf ⟨w', H, I.tok _, rw', q w' dw⟩) hs
    · cases hk
  · exact h.elim
/-! ### a def with its code object -/
theorem funD_okC {P : Program} {w : World} {K : PySem.W.Frag} {mg : Str → Option Value} {base : Heap} {CX : CXT} {x qual : Str} {params : Arguments} {body : List Stmt} {scope : Scope} {dvs : List V} {kws : List (Str × V)} {p : He.Defn} {fd : FuncData} {N ps : List Str} {k : Nat} {sp : Sp}
    (F : FunD K x qual params body scope dvs kws (He.fAd K p) fd) (S : FnScope N ps scope) (len : ∀ vs H Q E, sp vs H Q E → vs.length = ps.length)
    (hbody : ∀ (cdv : Value) (A : Around) (outer : List Env) (s : Shared) (H : Hp) (vs : List V) (Q : VK) (E : XK), cdv = .ref (He.cT K p).1 → Room k (A.deeper (envOfC qual scope s.heap.objs.size (He.fAd K p) cdv)) → sp vs H Q E →
      ∃ t, PSs (cxOf CX P w K mg base N qual scope (He.fAd K p) cdv A outer s H E) body t ∧ t { nx := fun _ H' => Q .non H', rt := Q } (L2.start N vs) H) : FnOk P w K mg base CX (k + 1) (He.fAd K p) fd ps sp := by
  obtain ⟨oc, od, dV, kV, doc, pm, an, cdv, ct, osl, rfl, lk, hcd, _⟩ := F.ex
  obtain ⟨c, rfl⟩ := He.codeIn_ref hcd
  exact fn_of lk hcd S len fun A outer s H vs Q E hr hsp => hbody _ A outer s H vs Q E (congrArg Value.ref (He.codeOf_eq lk rfl).symm) hr hsp
end
end GW

/-! tuple * int, any int; sum, insert -/
namespace GW
section
open PySem PySem.Spec PyProof.Rows L2
theorem tup_same (l : Addr) (its : Array Value) (n : Nat) (dd : Option Addr) (sl : Array (Option Value)) (x : Int) (u : Tok) (c0 : (decide (x < -(2 ^ 63)) || decide (x ≥ 2 ^ 63)) = false) (c1 : (its.isEmpty || x == 1) = true) :
    Meets (Builtin.«tuple.__mul__» ⟨[.ref l, .int x u], []⟩) (fun _ R s => s.heap.get? l = some { cls := .type "tuple", dict := dd, data := .seq its n, slots := sl } ∧ R (.ok (.ret (Value.ref l))) s) :=
  .of_wp fun prog w A R s h => by
    obtain ⟨hp, g, d, tk, os⟩ := s
    obtain ⟨hl, h⟩ := h
    have f1 := AutoSeq1.idx_int
    wp_walk using wpAny_loadPart' hl
    repeat (first
      | (refine wpAny_ite_false (decide_eq_false (by rw [c0]; exact Bool.false_ne_true)) ?_; wp_walk using wpAny_loadPart' hl)
      | (refine wpAny_ite_true (decide_eq_true c1) ?_; wp_walk using wpAny_loadPart' hl))
    exact ⟨_, rfl, h⟩
theorem tup_zero (l : Addr) (its : Array Value) (n : Nat) (dd : Option Addr) (sl : Array (Option Value)) (x : Int) (u : Tok) (c0 : (decide (x < -(2 ^ 63)) || decide (x ≥ 2 ^ 63)) = false) (c1 : (its.isEmpty || x == 1) = false) (c2 : (decide (x ≤ 0) || its.isEmpty) = true) :
    Meets (Builtin.«tuple.__mul__» ⟨[.ref l, .int x u], []⟩) (fun _ R s => s.heap.get? l = some { cls := .type "tuple", dict := dd, data := .seq its n, slots := sl } ∧
      R (.ok (.ret (Value.ref s.heap.objs.size))) { s with heap := s.heap.push { cls := Value.type "tuple", data := Data.seq #[] }, toks := s.toks }) :=
  .of_wp fun prog w A R s h => by
    obtain ⟨hp, g, d, tk, os⟩ := s
    obtain ⟨hl, h⟩ := h
    have f1 := AutoSeq1.idx_int
    wp_walk using wpAny_loadPart' hl
    repeat (first
      | (refine wpAny_ite_false (decide_eq_false (by rw [c0]; exact Bool.false_ne_true)) ?_; wp_walk using wpAny_loadPart' hl)
      | (refine wpAny_ite_false (decide_eq_false (by rw [c1]; exact Bool.false_ne_true)) ?_; wp_walk using wpAny_loadPart' hl)
      | (refine wpAny_ite_true (decide_eq_true c2) ?_; wp_walk using wpAny_loadPart' hl))
    exact ⟨_, rfl, h⟩
/-- a tuple times a number, whatever it is -/
def rRepU (K : PySem.W.Frag) : R2 := fun x y H Q => ∃ l k xs, x = .ref l ∧ y = .int k ∧ SqT K H l xs ∧ -1000 ≤ k ∧ k ≤ 1000 ∧ xs.length ≤ 1000 ∧
  ((xs = [] ∨ k = 1) → Q (.ref l) H) ∧ (xs ≠ [] → k ≠ 1 → ∀ p, H p = none → Q (.ref p) (upd H p (.tup (List.replicate k.toNat xs).flatten)))
variable {X : Cx}
theorem op_repU : OpR X (binaryOp .Mult) (rRepU X.K) := by
  intro pins s σ H x y v u Q I rx ry h
  obtain ⟨l, k, xs, rfl, rfl, hT, k1, k2, hz, q1, q2⟩ := h
  by_cases big : xs ≠ [] ∧ 2 ≤ k
  · exact op_repT pins s σ H _ _ v u Q I rx ry ⟨l, k, xs, rfl, rfl, hT, big.1, big.2, k2, hz, q2 big.1 (by omega)⟩
  cases rx
  obtain ⟨t, rfl⟩ := ry
  obtain ⟨its, r, ⟨⟨cls, dd, data, sl⟩, ho, hc, n, hd⟩, hs⟩ := I.tuple hT
  simp only at hc hd
  subst hc hd
  have emp : its.toArray.isEmpty = true ↔ xs = [] := by
    have hl := r.length
    cases its <;> cases xs <;> simp at hl ⊢
  have c0 : (decide (k < -(2 ^ 63)) || decide (k ≥ 2 ^ 63)) = false := by
    rw [decide_eq_false (by omega), decide_eq_false (by omega)] <;> rfl
  have road : ∀ {R : Result → Shared → Prop}, (∀ (A : Around), codeAny (model X.prog X.w) A (.call (.builtin "tuple.__mul__") ⟨[.ref l, .int k t], []⟩) R s → True) → True := fun _ => trivial
  by_cases one : xs = [] ∨ k = 1
  · have c1 : (its.toArray.isEmpty || k == 1) = true := by
      rcases one with e | e
      · rw [emp.mpr e, Bool.true_or]
      · rw [e]; simp
    refine wpAny_binaryOp_repeat_ref (T := "tuple") (U := "int") (by decide) ⟨_, ho, rfl⟩ (fun s' => typeIs_int s' k t) noFill_tuple_mul F.fills_int_mul F.slot_int_rmul repeat_tuple F.slot_int_index.lookup
      (call_meets F.slot_int_rmul (typeIs_int s k t) F.entry_int_rmul (F.args_int_rmul_2 _ _) (int_rmul_tuple k t l its.toArray n dd sl) ⟨ho, rfl, ⟨_, ho, rfl⟩, ?_⟩)
    exact call_meets F.slot_tuple_mul ⟨_, ho, rfl⟩ F.entry_tuple_mul (F.args_tuple_mul_2 _ _) (tup_same l its.toArray n dd sl k t c0 c1) ⟨ho, ⟨.ref l, H, I, rfl, q1 one⟩⟩
  · have n1 : xs ≠ [] := fun e => one (.inl e)
    have n2 : k ≠ 1 := fun e => one (.inr e)
    have n3 : k ≤ 0 := by
      have z : ¬ 2 ≤ k := fun h => big ⟨n1, h⟩
      omega
    have e0 : its.toArray.isEmpty = false := by
      cases q : its.toArray.isEmpty with
      | false => rfl
      | true => exact absurd (emp.mp q) n1
    have c1 : (its.toArray.isEmpty || k == 1) = false := by rw [e0]; simp [n2]
    have c2 : (decide (k ≤ 0) || its.toArray.isEmpty) = true := by rw [e0, Bool.or_false]; exact decide_eq_true n3
    refine wpAny_binaryOp_repeat_ref (T := "tuple") (U := "int") (by decide) ⟨_, ho, rfl⟩ (fun s' => typeIs_int s' k t) noFill_tuple_mul F.fills_int_mul F.slot_int_rmul repeat_tuple F.slot_int_index.lookup
      (call_meets F.slot_int_rmul (typeIs_int s k t) F.entry_int_rmul (F.args_int_rmul_2 _ _) (int_rmul_tuple k t l its.toArray n dd sl) ⟨ho, rfl, ⟨_, ho, rfl⟩, ?_⟩)
    refine call_meets F.slot_tuple_mul ⟨_, ho, rfl⟩ F.entry_tuple_mul (F.args_tuple_mul_2 _ _) (tup_zero l its.toArray n dd sl k t c0 c1 c2) ⟨ho, ?_⟩
    have e : (List.replicate k.toNat xs).flatten = [] := by rw [show k.toNat = 0 from by omega]; rfl
    have q := q2 n1 n2 s.heap.objs.size (I.hok.fresh (Nat.le_refl _))
    rw [e] at q
    exact ⟨.ref s.heap.objs.size, _, I.laid (t' := s.toks) (o := .tup []) (fun b ob q => Heap.get?_push_of_some _ q) (Nat.le_refl _) ⟨by simp, [], .nil, IsTup.new _ _⟩, rfl, q⟩
def rSumU (K : PySem.W.Frag) : List V → Hp → VK → Prop := fun vs H Q => match vs with
  | [.ref a] => ∃ ns : List Int, SqL K H a (ns.map V.int) ∧ Q (.int ns.sum) H
  | _ => False
theorem cu_sum (hc : X.calm = true) : CallR X (.builtin "sum") (rSumU X.K) := imC (cr_sum hc) fun vs H Q h => by
  unfold rSumU at h
  split at h
  · obtain ⟨ns, h1, q⟩ := h
    exact ⟨_, ns, rfl, h1, q⟩
  · exact h.elim
/-- xs.insert(i, y) -/
abbrev rInsert : V → List V → Hp → VK → Prop := fun x vs H Q => ∃ (l : Addr) (xs : List V) (i : Int) (y : V), x = .ref l ∧ vs = [.int i, y] ∧ H l = some (.lst xs) ∧ xs.length < sizeLine ∧ 0 ≤ i ∧ i < 2 ^ 63 ∧
    Q .non (upd H l (.lst (xs.take i.toNat ++ [y] ++ xs.drop i.toNat)))
def oMulU (K : PySem.W.Frag) : R2 := fun x y H Q => match x, y with
  | .int i, .int j => CMul i j ∧ Q (.int (i * j)) H
  | .str z, .int j => MulOk z j ∧ Q (.str (Txt.mul z j)) H
  | .ref i, .int j => rRep (.ref i) (.int j) H Q ∨ rRepU K (.ref i) (.int j) H Q
  | _, _ => False
theorem uo_mulU : OpR X (binaryOp .Mult) (oMulU X.K) := by
  intro pins s σ H x y v u Q I rx ry h
  cases x <;> cases y <;> first
    | exact False.elim h
    | exact op_mul pins s σ H _ _ v u Q I rx ry ⟨_, _, rfl, rfl, h.1, h.2⟩
    | exact h.elim (op_rep pins s σ H _ _ v u Q I rx ry) (op_repU pins s σ H _ _ v u Q I rx ry)
    | (obtain ⟨t, rfl⟩ := rx; obtain ⟨t', rfl⟩ := ry; exact PySem.SB.mul h.1 fun t2 k => ⟨.str _, H, I.tok _, ⟨_, rfl⟩, h.2⟩)
/-! ### facts by place -/
theorem all_at {l : List Bool} (h : l.all id = true) (i : Nat) {b : Bool} (e : l[i]? = some b) : b = true := List.all_eq_true.mp h b (List.mem_of_getElem? e)
def tabsB (l : List (Addr × Str)) : Bool := l.all fun p => l.all fun r => !(decide (p.1 = r.1)) || decide (p.2 = r.2)
theorem tabs_un {l : List (Addr × Str)} (h : tabsB l = true) {P : Addr} {z : Str} (i : Nat) (e : l[i]? = some (P, z)) : ∀ p ∈ l, p.1 = P → p.2 = z := fun p hp q => by
  have h1 := List.all_eq_true.mp (List.all_eq_true.mp h p hp) (P, z) (List.mem_of_getElem? e)
  rw [decide_eq_true q] at h1
  exact of_decide_eq_true (by simpa using h1)
def clsBody : Stmt → List Stmt
  | .ClassDef (body := b) .. => b
  | _ => []
end
end GW

/-! data in a growing heap -/
namespace GW
section
open PySem L2
variable {K : PySem.W.Frag}
/-- what is new since H -/
def nw (H H' : Hp) : Hp := fun b => match H b with
  | none => H' b
  | some _ => none
/-- all but what stands at D -/
def hid (D : Addr) (H : Hp) : Hp := fun b => if b = D then none else H b
theorem nw_le {H H' : Hp} : Same (nw H H') H' := fun b o e => by
  unfold nw at e
  split at e
  · exact e
  · cases e
theorem nw_at {H H' : Hp} {b : Addr} {o : HO} (n : H b = none) (e : H' b = some o) : nw H H' b = some o := by
  unfold nw
  rw [n]
  exact e
theorem nw_no {H H' : Hp} {b : Addr} {o : HO} (e : nw H H' b = some o) : H b = none ∧ H' b = some o := by
  unfold nw at e
  split at e
  · exact ⟨by assumption, e⟩
  · cases e
theorem same_none {H H' : Hp} {b : Addr} (s : Same H H') (n : H' b = none) : H b = none := by
  cases e : H b with
  | none => rfl
  | some o => rw [s _ _ e] at n; cases n
/-- new since later, in a smaller heap: new since earlier, in a greater one -/
theorem nw_mono {B H H' H2 : Hp} (s : Same B H) (t : Same H' H2) : Same (nw H H') (nw B H2) := fun b o e => by
  obtain ⟨h1, h2⟩ := nw_no e
  exact nw_at (same_none s h1) (t _ _ h2)
theorem hid_le {D : Addr} {H : Hp} : Same (hid D H) H := fun b o e => by
  unfold hid at e
  split at e
  · cases e
  · exact e
theorem hid_at {D b : Addr} {H : Hp} {o : HO} (n : b ≠ D) (e : H b = some o) : hid D H b = some o := by
  unfold hid
  rw [if_neg n]
  exact e
/-- what was there before D was, is there without it -/
theorem hid_of {D : Addr} {G H : Hp} (n : G D = none) (s : Same G H) : Same G (hid D H) := fun b o e => hid_at (fun z => by rw [z, n] at e; cases e) (s _ _ e)
theorem hid_upd {D : Addr} {H : Hp} {o : HO} : hid D (upd H D o) = hid D H := by
  funext b
  unfold hid upd
  by_cases e : b = D <;> simp [e]
/-- new since a heap that has D, so not D -/
theorem hid_nw {D : Addr} {B H H' : Hp} {o : HO} (s : Same B H) (e : H D = some o) : Same (nw H H') (hid D (nw B H')) := fun b u x => by
  obtain ⟨h1, h2⟩ := nw_no x
  exact hid_at (fun z => by rw [z, e] at h1; cases h1) (nw_at (same_none s h1) h2)
mutual
theorem dp_le {G H : Hp} (s : Same G H) : ∀ (d : PyData) (v : V), Dp K G v d → Dp K H v d
  | .none, _, h => by cases h; exact .non
  | .bool b, _, h => by cases h; exact .bl b
  | .int i, _, h => by cases h; exact .int i
  | .str x, _, h => by cases h; exact .str x
  | .list ds, _, h => by
    cases h with
    | lst q a => exact .lst (s.seq q) (dpa_le s ds _ a)
  | .tuple ds, _, h => by
    cases h with
    | tup q a => exact .tup (same_seqT s q) (dpa_le s ds _ a)
  | .dict _, _, h => by cases h
theorem dpa_le {G H : Hp} (s : Same G H) : ∀ (ds : List PyData) (vs : List V), DpAll K G vs ds → DpAll K H vs ds
  | [], _, h => by cases h; exact .nil
  | d :: ds, _, h => by
    cases h with
    | cons a b => exact .cons (dp_le s d _ a) (dpa_le s ds _ b)
end
theorem dpa_snoc {H : Hp} : ∀ {vs : List V} {ds : List PyData} {v : V} {d : PyData}, DpAll K H vs ds → Dp K H v d → DpAll K H (vs ++ [v]) (ds ++ [d])
  | _, _, _, _, .nil, h => .cons h .nil
  | _, _, _, _, .cons a b, h => .cons a (dpa_snoc b h)
theorem dpa_len {H : Hp} : ∀ {vs : List V} {ds : List PyData}, DpAll K H vs ds → vs.length = ds.length
  | _, _, .nil => rfl
  | _, _, .cons _ b => by rw [List.length_cons, List.length_cons, dpa_len b]
theorem dpa_at {H : Hp} : ∀ {vs : List V} {ds : List PyData} {i : Nat} {d : PyData}, DpAll K H vs ds → ds[i]? = some d → ∃ v, vs[i]? = some v ∧ Dp K H v d
  | _, _, _, _, .nil, h => by cases h
  | _, _, 0, _, .cons a _, h => by
    cases h
    exact ⟨_, rfl, a⟩
  | _, _, i + 1, _, .cons _ b, h => dpa_at (i := i) b h
theorem dpa_app {H : Hp} : ∀ {vs us : List V} {ds es : List PyData}, DpAll K H vs ds → DpAll K H us es → DpAll K H (vs ++ us) (ds ++ es)
  | _, _, _, _, .nil, h => h
  | _, _, _, _, .cons a b, h => .cons a (dpa_app b h)
theorem dp_tup {H : Hp} {v : V} {ds : List PyData} (h : Dp K H v (.tuple ds)) : ∃ a xs, v = .ref a ∧ SqT K H a xs ∧ DpAll K H xs ds := by
  cases h with
  | tup q a => exact ⟨_, _, rfl, q, a⟩
theorem dp_lst {H : Hp} {v : V} {ds : List PyData} (h : Dp K H v (.list ds)) : ∃ a xs, v = .ref a ∧ SqL K H a xs ∧ DpAll K H xs ds := by
  cases h with
  | lst q a => exact ⟨_, _, rfl, q, a⟩
theorem dp_int {H : Hp} {v : V} {i : Int} (h : Dp K H v (.int i)) : v = .int i := by cases h; rfl
theorem dp_str {H : Hp} {v : V} {i : Str} (h : Dp K H v (.str i)) : v = .str i := by cases h; rfl
theorem dpa_ints {H : Hp} : ∀ {vs : List V} {ns : List Int}, DpAll K H vs (ns.map PyData.int) → vs = ns.map V.int
  | _, [], h => by cases h; rfl
  | _, n :: ns, h => by
    cases h with
    | cons a b => rw [dp_int a, dpa_ints b]; rfl
theorem dpa_int' {H : Hp} : ∀ ns : List Int, DpAll K H (ns.map V.int) (ns.map PyData.int)
  | [] => .nil
  | n :: ns => .cons (.int n) (dpa_int' ns)
theorem nw_none {H H' : Hp} {D : Addr} (h : H' D = none) : nw H H' D = none := by
  unfold nw
  split
  · exact h
  · rfl
/-- data is given back, all of it new -/
def retD (K : PySem.W.Frag) (H : Hp) (Q : VK) (d : PyData) : Prop := ∀ v H', Same H H' → Dp K (nw H H') v d → Q v H'
/-! ### a comprehension that makes data -/
section
variable {J : It} {G : Hp → Prop} {Y : Nat → Hp → V → Hp → Prop} {n : Nat}
theorem lc_D (w : Walk J n G Y) (B : Hp) (f : Nat → Option PyData) {g : TG} {tt : TT} {te : TE} {vs : List Nat} {σ : St} {H1 : Hp} {D : Addr} {Qd : Hp → Prop} (hD : H1 D = none) (hB : Same B H1) (hn : n ≤ sizeLine)
    (hG : ∀ H, Same H1 H → G H) (hY : ∀ i H x H', i < n → Y i H x H' → Same H H')
    (hs : ∀ i x H H' (Q : V → Hp → Prop) (R : Hp → Prop), i < n → Same H1 H → (∃ ys, H D = some (.lst ys)) → Y i H x H' → (∀ H2 y d, Same H' H2 → f i = some d → Dp K (hid D (nw B H2)) y d → Q y H2) → (∀ H2, Same H' H2 → f i = none → R H2) →
      g x (wipe σ vs) H' fun σ2 H2 => wipe σ2 vs = wipe σ vs ∧ tt σ2 H2 fun b H3 => if b = true then te σ2 H3 Q else R H3)
    (hd : ∀ H, Same H1 H → (∃ ys, H D = some (.lst ys) ∧ DpAll K (nw B H) ys ((List.range n).filterMap f)) → Dp K (nw B H) (.ref D) (.list ((List.range n).filterMap f)) → Qd H) :
    ∃ W : Nat → Nat → Hp → Prop, (∃ m, W 0 m (upd H1 D (.lst []))) ∧ ∀ i m H, W i m H →
      (J.stop i H ∧ Qd H) ∨ (J.go i H ∧ ∃ Nx : Hp → Prop, (∀ H', Nx H' → ∃ m', m' < m ∧ W (i + 1) m' H') ∧ ∀ x H', J.yld i H x H' → g x (wipe σ vs) H' fun σ2 H2 => wipe σ2 vs = wipe σ vs ∧ tt σ2 H2 fun b H3 =>
        if b = true then te σ2 H3 fun y H4 => ∃ acc, H4 D = some (.lst acc) ∧ acc.length < sizeLine ∧ Nx (upd H4 D (.lst (acc ++ [y]))) else Nx H3) := by
  have nB : B D = none := same_none hB hD
  refine lc_it w (fun i H => Same H1 H ∧ ∃ ys, H D = some (.lst ys) ∧ ys.length ≤ i ∧ DpAll K (hid D (nw B H)) ys ((List.range i).filterMap f)) ⟨same_new hD, [], upd_same, Nat.le_refl _, .nil⟩ (fun i H _ p => hG H p.1) ?_ ?_
  · rintro i x H H' hi ⟨s, ys, e, el, a⟩ y
    have sy := hY i H x H' hi y
    have more : ∀ H2, Same H' H2 → DpAll K (hid D (nw B H2)) ys ((List.range i).filterMap f) := fun H2 s2 => dpa_le (fun b o z => by
      unfold hid at z ⊢
      split at z
      · cases z
      · rw [if_neg (by assumption)]
        obtain ⟨h1, h2⟩ := nw_no z
        exact nw_at h1 (s2 _ _ (sy _ _ h2))) _ _ a
    refine hs i x H H' _ _ hi s ⟨ys, e⟩ y (fun H2 v d s2 ef hv => ⟨ys, s2 _ _ (sy _ _ e), by omega, ?_⟩) fun H2 s2 ef => ?_
    · refine ⟨same_upd ((s.trans sy).trans s2) hD, ys ++ [v], upd_same, by simp; omega, ?_⟩
      rw [List.range_succ, List.filterMap_append, List.filterMap_cons, ef, List.filterMap_nil]
      have eh : hid D (nw B (upd H2 D (.lst (ys ++ [v])))) = hid D (nw B H2) := by
        funext b
        unfold hid nw upd
        by_cases z : b = D
        · simp [z]
        · simp [z]
      rw [eh]
      exact dpa_snoc (more H2 s2) hv
    · refine ⟨(s.trans sy).trans s2, ys, s2 _ _ (sy _ _ e), by omega, ?_⟩
      rw [List.range_succ, List.filterMap_append, List.filterMap_cons, ef, List.filterMap_nil, List.append_nil]
      exact more H2 s2
  · rintro H ⟨s, ys, e, _, a⟩
    exact hd H s ⟨ys, e, dpa_le hid_le _ _ a⟩ (.lst (SqL.of (nw_at nB e)) (dpa_le hid_le _ _ a))
end
end
end GW

/-! data in tuples of data -/
namespace GW
section
open PySem PyProof.Rows L2
variable {X : Cx}
/-- in, not in: as oIn; data in a tuple, too -/
def oInU (K : PySem.W.Frag) (neg : Bool) : R2 := fun x y H Q => match y with
  | .str z => oIn K neg x (.str z) H Q
  | .ref a => oIn K neg x (.ref a) H Q ∨ ∃ d ds, Dp K H x d ∧ Dp K H (.ref a) (.tuple ds) ∧ SeqAt.shaped d = true ∧ SeqAt.shaped (.tuple ds) = true ∧ Q (.bl (ng neg <| ds.any fun z => PyData.eqv z d)) H
  | _ => False
theorem uo_inU (hu : X.A.units + 65 < cLine) : OpR X (compareOp .In) (oInU X.K false) := by
  intro pins s σ H x y v u Q I rx ry h
  cases y with
  | str z => exact uo_in hu pins s σ H _ _ v u Q I rx ry h
  | ref a =>
    rcases h with h | ⟨d, ds, hd, he, sd, se, q⟩
    · exact uo_in hu pins s σ H _ _ v u Q I rx ry h
    · obtain ⟨as, r1⟩ := Dp.reads I d x v hd rx
      obtain ⟨bs, r2⟩ := Dp.reads I (.tuple ds) _ u he ry
      exact SeqAt.in_tuple_reads r2 r1 (SeqAt.canLay_of_shaped se) (SeqAt.canLay_of_shaped sd) (room_in_shaped sd hu) ⟨.bl _, H, I, rfl, q⟩
  | _ => exact False.elim h
theorem uo_ninU (hu : X.A.units + 65 < cLine) : OpR X (compareOp .NotIn) (oInU X.K true) := by
  intro pins s σ H x y v u Q I rx ry h
  cases y with
  | str z => exact uo_nin hu pins s σ H _ _ v u Q I rx ry h
  | ref a =>
    rcases h with h | ⟨d, ds, hd, he, sd, se, q⟩
    · exact uo_nin hu pins s σ H _ _ v u Q I rx ry h
    · obtain ⟨as, r1⟩ := Dp.reads I d x v hd rx
      obtain ⟨bs, r2⟩ := Dp.reads I (.tuple ds) _ u he ry
      exact SeqAt.notIn_tuple_reads r2 r1 (SeqAt.canLay_of_shaped se) (SeqAt.canLay_of_shaped sd) (room_in_shaped sd hu) ⟨.bl _, H, I, rfl, q⟩
  | _ => exact False.elim h
end
end GW
namespace GW
section
open PySem PyProof.Rows L2
variable {X : Cx}
/-- // by any small number but nought -/
def oDivN : R2 := fun x y H Q => match x, y with
  | .int i, .int j => CDivN i j ∧ Q (.int (i.fdiv j)) H
  | _, _ => False
theorem uo_divN : OpR X (binaryOp .FloorDiv) oDivN := by
  intro pins s σ H x y v u Q I rx ry h
  cases x <;> cases y <;> first
    | exact False.elim h
    | exact op_fdivN pins s σ H _ _ v u Q I rx ry ⟨_, _, rfl, rfl, h.1, h.2⟩
end
end GW

/-! data where lambdas are made: all but the tables stands -/
namespace GW
section
open PySem L2
variable {K : PySem.W.Frag}
theorem extn_sq {G H : Hp} (s : LamX.ExtN G H) {a : Addr} {xs : List V} (h : SqL K G a xs) : SqL K H a xs := by
  rcases h with (h | ⟨o, h⟩) | h
  · exact .inl (.inl (s _ _ h (fun _ z => nomatch z)))
  · exact .inl (.inr ⟨o, s _ _ h (fun _ z => nomatch z)⟩)
  · exact .inr h
theorem extn_sqT {G H : Hp} (s : LamX.ExtN G H) {a : Addr} {xs : List V} (h : SqT K G a xs) : SqT K H a xs := by
  rcases h with (h | ⟨o, h⟩) | h
  · exact .inl (.inl (s _ _ h (fun _ z => nomatch z)))
  · exact .inl (.inr ⟨o, s _ _ h (fun _ z => nomatch z)⟩)
  · exact .inr h
mutual
theorem dp_ext {G H : Hp} (s : LamX.ExtN G H) : ∀ (d : PyData) (v : V), Dp K G v d → Dp K H v d
  | .none, _, h => by cases h; exact .non
  | .bool b, _, h => by cases h; exact .bl b
  | .int i, _, h => by cases h; exact .int i
  | .str x, _, h => by cases h; exact .str x
  | .list ds, _, h => by
    cases h with
    | lst q a => exact .lst (extn_sq s q) (dpa_ext s ds _ a)
  | .tuple ds, _, h => by
    cases h with
    | tup q a => exact .tup (extn_sqT s q) (dpa_ext s ds _ a)
  | .dict _, _, h => by cases h
theorem dpa_ext {G H : Hp} (s : LamX.ExtN G H) : ∀ (ds : List PyData) (vs : List V), DpAll K G vs ds → DpAll K H vs ds
  | [], _, h => by cases h; exact .nil
  | d :: ds, _, h => by
    cases h with
    | cons a b => exact .cons (dp_ext s d _ a) (dpa_ext s ds _ b)
end
theorem dpa_mem {H : Hp} : ∀ {vs : List V} {ds : List PyData} {x : V}, DpAll K H vs ds → x ∈ vs → ∃ d ∈ ds, Dp K H x d
  | _, _, _, .nil, h => by cases h
  | _, _, x, .cons a b, h => by
    cases h with
    | head => exact ⟨_, List.mem_cons_self, a⟩
    | tail _ h =>
      obtain ⟨d, hd, e⟩ := dpa_mem b h
      exact ⟨d, List.mem_cons_of_mem _ hd, e⟩
theorem same_ext {G H : Hp} (s : Same G H) : LamX.ExtN G H := fun b o h _ => s b o h
/-- tables stand where one list is written -/
theorem tabs_kp {T : List (Addr × Str)} {G H : Hp} {s : Addr} {xs : List V} (t : LamX.Tabs T G) (k : Kp s G H) (e : G s = some (.lst xs)) : LamX.Tabs T H := fun p hp => by
  obtain ⟨ps, h, ok, f⟩ := t p hp
  refine ⟨ps, k _ _ (fun z => ?_) h, ok, fun pos cv hc => ?_⟩
  · rw [z, e] at h; cases h
  · obtain ⟨c, e1, e2⟩ := f pos cv hc
    refine ⟨c, e1, k _ _ (fun z => ?_) e2⟩
    rw [z, e] at e2; cases e2
/-- what is new since B, none of its objects a table: kept where all but p stands -/
theorem nw_kp {B G H : Hp} {p : Addr} {o : HO} (k : Kp p G H) (e : B p = some o) : Same (nw B G) H := fun b u z => by
  obtain ⟨h1, h2⟩ := nw_no z
  exact k _ _ (fun w => by rw [w, e] at h1; cases h1) h2
end
end GW

/-! what a def computes, over plain values: no heap in sight -/
namespace GW
open PySem L2
/-- a plain value -/
inductive D where
  | non | bl (b : Bool) | int (i : Int) | str (s : Str)
  | lst (xs : List D) | tup (xs : List D) | dct (ks : List Key) (vs : List D) | pen
/-- what the pen has left -/
structure PenS where
  cells : List Int
  at_ : Int
  left : Int
section
variable (K : PySem.W.Frag) (p : Option Addr) (H : Hp)
mutual
inductive Dx : V → D → Prop
  | non : Dx .non .non
  | bl (b : Bool) : Dx (.bl b) (.bl b)
  | int (i : Int) : Dx (.int i) (.int i)
  | str (s : Str) : Dx (.str s) (.str s)
  | lst {a : Addr} {xs : List V} {ds : List D} (e : H a = some (.lst xs)) (h : DxA xs ds) : Dx (.ref a) (.lst ds)
  | tup {a : Addr} {xs : List V} {ds : List D} (e : SqT K H a xs) (h : DxA xs ds) : Dx (.ref a) (.tup ds)
  | dct {a : Addr} {ks : List Key} {xs : List V} {ds : List D} (e : H a = some (.dK (ks.zip xs))) (l : ks.length = xs.length) (h : DxA xs ds) : Dx (.ref a) (.dct ks ds)
  | pen {a : Addr} (e : p = some a) : Dx (.ref a) .pen
inductive DxA : List V → List D → Prop
  | nil : DxA [] []
  | cons {v : V} {d : D} {vs : List V} {ds : List D} (h : Dx v d) (t : DxA vs ds) : DxA (v :: vs) (d :: ds)
end
end
/-- all but the tables that the one has, the other one has -/
abbrev Ext (G H : Hp) : Prop := LamX.ExtN G H
mutual
theorem dx_ext {K : PySem.W.Frag} {p : Option Addr} {G H : Hp} (s : Ext G H) : ∀ (d : D) (v : V), Dx K p G v d → Dx K p H v d
  | .non, _, h => by cases h; exact .non
  | .bl b, _, h => by cases h; exact .bl b
  | .int i, _, h => by cases h; exact .int i
  | .str x, _, h => by cases h; exact .str x
  | .pen, _, h => by cases h with | pen e => exact .pen e
  | .lst ds, _, h => by
    cases h with
    | lst q a => exact .lst (s _ _ q (fun _ z => nomatch z)) (dxa_ext s ds _ a)
  | .tup ds, _, h => by
    cases h with
    | tup q a => exact .tup (extn_sqT s q) (dxa_ext s ds _ a)
  | .dct ks ds, _, h => by
    cases h with
    | dct q l a => exact .dct (s _ _ q (fun _ z => nomatch z)) l (dxa_ext s ds _ a)
theorem dxa_ext {K : PySem.W.Frag} {p : Option Addr} {G H : Hp} (s : Ext G H) : ∀ (ds : List D) (vs : List V), DxA K p G vs ds → DxA K p H vs ds
  | [], _, h => by cases h; exact .nil
  | d :: ds, _, h => by
    cases h with
    | cons a b => exact .cons (dx_ext s d _ a) (dxa_ext s ds _ b)
end
/-- where we are: what may be written, the pen and its cells, the tables -/
structure Cc where
  own : List Addr
  hid : List Addr
  pen : Option (Addr × Addr)
/-- what no value shows -/
abbrev Cc.all (C : Cc) : List Addr := C.own ++ C.hid
theorem Cc.off {C : Cc} {b : Addr} (h : b ∉ C.all) : b ∉ C.own := fun z => h (List.mem_append_left _ z)
def hide (l : List Addr) (H : Hp) : Hp := fun b => if b ∈ l then none else H b
abbrev Cc.p (C : Cc) : Option Addr := C.pen.map Prod.fst
/-- v is d -/
abbrev Dv (K : PySem.W.Frag) (C : Cc) (H : Hp) (v : V) (d : D) : Prop := Dx K C.p (hide C.all H) v d
abbrev DvA (K : PySem.W.Frag) (C : Cc) (H : Hp) (vs : List V) (ds : List D) : Prop := DxA K C.p (hide C.all H) vs ds
structure Stt (T : List (Addr × Str)) (C : Cc) (H : Hp) (s : PenS) : Prop where
  has : ∀ b ∈ C.all, ∃ o, H b = some o ∧ ∀ ps, o ≠ .tbl ps
  tabs : LamX.Tabs T H
  pen : ∀ p c, C.pen = some (p, c) → p ∈ C.own ∧ c ∉ C.all ∧ H p = some (.lst [.ref c, .int s.at_, .int s.left]) ∧ H c = some (.lst (s.cells.map .int))
def Keep (C : Cc) (H H' : Hp) : Prop := ∀ b o, b ∉ C.own → (∀ ps, o ≠ .tbl ps) → H b = some o → H' b = some o
theorem Keep.refl {C : Cc} (H : Hp) : Keep C H H := fun _ _ _ _ h => h
theorem Keep.trans {C : Cc} {H H1 H2 : Hp} (a : Keep C H H1) (b : Keep C H1 H2) : Keep C H H2 := fun c o n t h => b c o n t (a c o n t h)
theorem Keep.ext {C : Cc} {H H' : Hp} (k : Keep C H H') : Ext (hide C.all H) (hide C.all H') := fun b o h t => by
  unfold hide at h ⊢
  split at h
  · cases h
  · rw [if_neg (by assumption)]
    exact k b o (Cc.off (by assumption)) t h
theorem Keep.dv {K : PySem.W.Frag} {C : Cc} {H H' : Hp} (k : Keep C H H') {v : V} {d : D} (h : Dv K C H v d) : Dv K C H' v d := dx_ext k.ext _ _ h
theorem Keep.dvA {K : PySem.W.Frag} {C : Cc} {H H' : Hp} (k : Keep C H H') {vs : List V} {ds : List D} (h : DvA K C H vs ds) : DvA K C H' vs ds := dxa_ext k.ext _ _ h
theorem same_keep {C : Cc} {H H' : Hp} (s : Same H H') : Keep C H H' := fun b o _ _ h => s b o h
theorem Stt.same {T : List (Addr × Str)} {C : Cc} {H H' : Hp} {s : PenS} (t : Stt T C H s) (e : Same H H') : Stt T C H' s := by
  refine ⟨fun b hb => ?_, t.tabs.ext e, fun p c h => ?_⟩
  · obtain ⟨o, q, n⟩ := t.has b hb
    exact ⟨o, e _ _ q, n⟩
  · obtain ⟨h0, h1, h2, h3⟩ := t.pen p c h
    exact ⟨h0, h1, e _ _ h2, e _ _ h3⟩
/-- a new object: not hidden -/
theorem Stt.off {T : List (Addr × Str)} {C : Cc} {H : Hp} {s : PenS} (t : Stt T C H s) {a : Addr} (n : H a = none) : a ∉ C.all := fun h => by
  obtain ⟨o, q, _⟩ := t.has a h
  rw [n] at q
  cases q
theorem hide_at {l : List Addr} {H : Hp} {a : Addr} {o : HO} (n : a ∉ l) (e : H a = some o) : hide l H a = some o := by
  unfold hide
  rw [if_neg n]
  exact e
theorem hide_get {l : List Addr} {H : Hp} {a : Addr} {o : HO} (e : hide l H a = some o) : a ∉ l ∧ H a = some o := by
  unfold hide at e
  split at e
  · cases e
  · exact ⟨by assumption, e⟩
theorem hide_same {l : List Addr} {H : Hp} : Same (hide l H) H := fun b o e => (hide_get e).2
/-! ### outcomes -/
inductive R (α : Type) where
  | ok (a : α) (s : PenS)
  | er (x : Str) (ns : List Str) (ds : List D) (s : PenS)
  | bad
/-- the outcome is well, and what follows holds -/
def R.wp {α : Type} (r : R α) (Q : α → PenS → Prop) (E : Str → List Str → List D → PenS → Prop) : Prop := match r with
  | .ok a s => Q a s
  | .er x ns ds s => E x ns ds s
  | .bad => False
abbrev M (α : Type) : Type := PenS → R α
def M.ok {α : Type} (a : α) : M α := fun s => .ok a s
def M.bind {α β : Type} (m : M α) (f : α → M β) : M β := fun s => match m s with
  | .ok a s' => f a s'
  | .er x ns ds s' => .er x ns ds s'
  | .bad => .bad
/-- a side condition -/
def chk {α : Type} (b : Bool) (m : M α) : M α := match b with
  | true => m
  | false => fun _ => .bad
instance : Monad M where
  pure := M.ok
  bind := M.bind
theorem R.wp_mono {α : Type} {r : R α} {Q Q' : α → PenS → Prop} {E E' : Str → List Str → List D → PenS → Prop} (h : r.wp Q E) (q : ∀ a s, Q a s → Q' a s) (e : ∀ x ns ds s, E x ns ds s → E' x ns ds s) : r.wp Q' E' := by
  cases r with
  | ok a s => exact q _ _ h
  | er x ns ds s => exact e _ _ _ _ h
  | bad => exact h
theorem M.wp_bind {α β : Type} {m : M α} {f : α → M β} {s : PenS} {Q : β → PenS → Prop} {E : Str → List Str → List D → PenS → Prop} (h : (M.bind m f s).wp Q E) : (m s).wp (fun a s' => (f a s').wp Q E) E := by
  unfold M.bind at h
  cases e : m s with
  | ok a s' => rw [e] at h; exact h
  | er x ns ds s' => rw [e] at h; exact h
  | bad => rw [e] at h; exact h
theorem chk_wp {α : Type} {b : Bool} {m : M α} {s : PenS} {Q : α → PenS → Prop} {E : Str → List Str → List D → PenS → Prop} (h : (chk b m s).wp Q E) : b = true ∧ (m s).wp Q E := by
  cases b with
  | true => exact ⟨rfl, h⟩
  | false => exact False.elim h
abbrev En : Type := List (Option D)
/-- the slots hold what is told (what is not told is open) -/
inductive Env (K : PySem.W.Frag) (C : Cc) (H : Hp) : St → En → Prop
  | nil : Env K C H [] []
  | cons {ov : Option V} {od : Option D} {σ : St} {ρ : En} (h : ∀ d, od = some d → ∃ v, ov = some v ∧ Dv K C H v d) (t : Env K C H σ ρ) : Env K C H (ov :: σ) (od :: ρ)
theorem Env.keep {K : PySem.W.Frag} {C : Cc} {H H' : Hp} (k : Keep C H H') : ∀ {σ : St} {ρ : En}, Env K C H σ ρ → Env K C H' σ ρ
  | _, _, .nil => .nil
  | _, _, .cons h t => .cons (fun d e => by
      obtain ⟨v, e1, h1⟩ := h d e
      exact ⟨v, e1, k.dv h1⟩) (t.keep k)
theorem Env.at {K : PySem.W.Frag} {C : Cc} {H : Hp} : ∀ {σ : St} {ρ : En} {i : Nat} {d : D}, Env K C H σ ρ → ρ[i]? = some (some d) → ∃ v, σ[i]? = some (some v) ∧ Dv K C H v d
  | _, _, _, _, .nil, h => by cases h
  | _, _, 0, d, .cons h t, e => by
    cases e
    obtain ⟨v, e1, h1⟩ := h d rfl
    exact ⟨v, by rw [e1]; rfl, h1⟩
  | _, _, i + 1, d, .cons _ t, e => Env.at (i := i) t e
theorem Env.set {K : PySem.W.Frag} {C : Cc} {H : Hp} {v : V} {d : D} (hd : Dv K C H v d) : ∀ {σ : St} {ρ : En} (i : Nat), Env K C H σ ρ → Env K C H (σ.set i (some v)) (ρ.set i (some d))
  | _, _, _, .nil => .nil
  | _, _, 0, .cons h t => .cons (fun d' e => by cases e; exact ⟨v, rfl, hd⟩) t
  | _, _, i + 1, .cons h t => .cons h (t.set hd i)
theorem Env.unset {K : PySem.W.Frag} {C : Cc} {H : Hp} {ov : Option V} : ∀ {σ : St} {ρ : En} (i : Nat), Env K C H σ ρ → Env K C H (σ.set i ov) (ρ.set i none)
  | _, _, _, .nil => .nil
  | _, _, 0, .cons h t => .cons (fun d' e => by cases e) t
  | _, _, i + 1, .cons h t => .cons h (t.unset i)
/-! ### what a reading is told by -/
section
variable (K : PySem.W.Frag) (T : List (Addr × Str)) (E : XK)
abbrev KQ (C : Cc) (H : Hp) (Q : VK) : D → PenS → Prop := fun d s' => ∀ v H', Keep C H H' → Stt T C H' s' → Dv K C H' v d → Q v H'
abbrev KE (C : Cc) (H : Hp) : Str → List Str → List D → PenS → Prop := fun x ns ds s' => ∀ vs dd H', Keep C H H' → Stt T C H' s' → H' dd = some (.xd (ns.zip vs)) → ns.length = vs.length → DvA K C H' vs ds → E (.ref (He.ga K x)) (some dd) H'
def SE (te : TE) (m : En → M D) : Prop := ∀ C σ H ρ s Q, Env K C H σ ρ → Stt T C H s → (m ρ s).wp (KQ K T C H Q) (KE K T E C H) → te σ H Q
def SA (te : TA) (m : En → M (List D)) : Prop := ∀ C σ H ρ s Q, Env K C H σ ρ → Stt T C H s → (m ρ s).wp (fun ds s' => ∀ vs H', Keep C H H' → Stt T C H' s' → DvA K C H' vs ds → Q vs H') (KE K T E C H) → te σ H Q
def ST (te : TT) (m : En → M Bool) : Prop := ∀ C σ H ρ s Q, Env K C H σ ρ → Stt T C H s → (m ρ s).wp (fun b s' => ∀ H', Keep C H H' → Stt T C H' s' → Q b H') (KE K T E C H) → te σ H Q
inductive Out where
  | nx (ρ : En)
  | rt (d : D)
def SS (te : TS) (m : En → M Out) : Prop := ∀ C σ H ρ s (N : Ends), Env K C H σ ρ → Stt T C H s → (m ρ s).wp (fun o s' => ∀ H', Keep C H H' → Stt T C H' s' → match o with
  | .nx ρ' => ∀ σ', Env K C H' σ' ρ' → N.nx σ' H'
  | .rt d => ∀ v, Dv K C H' v d → N.rt v H') (KE K T E C H) → te N σ H
/-- a target that writes the slots vs alone -/
def SG (vs : List Nat) (g : TG) (m : D → En → M En) : Prop := ∀ C v d σ H ρ s Q, Dv K C H v d → Env K C H σ ρ → Stt T C H s → (m d ρ s).wp (fun ρ' s' => ∀ σ', Env K C H σ' ρ' → wipe σ' vs = wipe σ vs → s' = s → Q σ' H) (KE K T E C H) → g v σ H Q
end
section
variable {K : PySem.W.Frag} {T : List (Addr × Str)} {E : XK}
theorem ke_step {C : Cc} {H H1 : Hp} (k : Keep C H H1) {x : Str} {ns : List Str} {ds : List D} {s : PenS} (h : KE K T E C H x ns ds s) : KE K T E C H1 x ns ds s := fun vs dd H' k' => h vs dd H' (k.trans k')
/-! ### expressions -/
theorem se_c_int (i : Int) : SE K T E (tC (.int i)) fun _ => M.ok (.int i) := fun C σ H ρ s Q e t h => h _ H (Keep.refl H) t (.int i)
theorem se_c_bl (b : Bool) : SE K T E (tC (.bl b)) fun _ => M.ok (.bl b) := fun C σ H ρ s Q e t h => h _ H (Keep.refl H) t (.bl b)
theorem se_c_str (x : Str) : SE K T E (tC (.str x)) fun _ => M.ok (.str x) := fun C σ H ρ s Q e t h => h _ H (Keep.refl H) t (.str x)
theorem se_c_non : SE K T E (tC .non) fun _ => M.ok .non := fun C σ H ρ s Q e t h => h _ H (Keep.refl H) t .non
def dVar (i : Nat) : En → M D := fun ρ => match ρ[i]? with
  | some (some d) => M.ok d
  | _ => fun _ => .bad
theorem se_var (i : Nat) : SE K T E (mVar i) (dVar i) := fun C σ H ρ s Q e t h => by
  unfold dVar at h
  cases hd : ρ[i]? with
  | none => rw [hd] at h; exact False.elim h
  | some od =>
    rw [hd] at h
    cases od with
    | none => exact False.elim h
    | some d =>
      obtain ⟨v, hv, dv⟩ := e.at hd
      exact mVar_of hv (h v H (Keep.refl H) t dv)
theorem sa_nil : SA K T E tNil fun _ => M.ok [] := fun C σ H ρ s Q e t h => h [] H (Keep.refl H) t .nil
def dCons (a : En → M D) (r : En → M (List D)) : En → M (List D) := fun ρ => M.bind (a ρ) fun d => M.bind (r ρ) fun ds => M.ok (d :: ds)
theorem sa_cons {ta : TE} {tr : TA} {a : En → M D} {r : En → M (List D)} (ha : SE K T E ta a) (hr : SA K T E tr r) : SA K T E (tCons ta tr) (dCons a r) := fun C σ H ρ s Q e t h => by
  refine ha C σ H ρ s _ e t (R.wp_mono (M.wp_bind h) (fun d s1 h1 v H1 k1 t1 dv => ?_) fun _ _ _ _ h => h)
  refine hr C σ H1 ρ s1 _ (e.keep k1) t1 (R.wp_mono (M.wp_bind h1) (fun ds s2 h2 vs H2 k2 t2 dvs => ?_) fun _ _ _ _ h => ke_step k1 h)
  exact h2 (v :: vs) H2 (k1.trans k2) t2 (.cons (k2.dv dv) dvs)
/-- an operation of two values -/
def S2 (r : R2) (f : D → D → M D) : Prop := ∀ C x y dx dy H s (Q : VK), Dv K C H x dx → Dv K C H y dy → Stt T C H s → (f dx dy s).wp (KQ K T C H Q) (KE K T E C H) → r x y H Q
def dOp (f : D → D → M D) (a b : En → M D) : En → M D := fun ρ => M.bind (a ρ) fun x => M.bind (b ρ) fun y => f x y
theorem se_op {r : R2} {f : D → D → M D} {ta tb : TE} {a b : En → M D} (hr : S2 (K := K) (T := T) (E := E) r f) (ha : SE K T E ta a) (hb : SE K T E tb b) : SE K T E (tOp r ta tb) (dOp f a b) := fun C σ H ρ s Q e t h => by
  refine ha C σ H ρ s _ e t (R.wp_mono (M.wp_bind h) (fun d s1 h1 v H1 k1 t1 dv => ?_) fun _ _ _ _ h => h)
  refine hb C σ H1 ρ s1 _ (e.keep k1) t1 (R.wp_mono (M.wp_bind h1) (fun d2 s2 h2 v2 H2 k2 t2 dv2 => ?_) fun _ _ _ _ h => ke_step k1 h)
  exact hr C v v2 d d2 H2 s2 Q (k2.dv dv) dv2 t2 (R.wp_mono h2 (fun d s h v H' k => h v H' ((k1.trans k2).trans k)) fun _ _ _ _ h => ke_step (k1.trans k2) h)
end
end GW

namespace GW
section
open PySem PyProof.Rows L2
variable {X : Cx}
/-- + of tuples, too -/
def oAddT (K : PySem.W.Frag) : R2 := fun x y H Q => match x, y with
  | .int i, .int j => Q (.int (i + j)) H
  | .str i, .str j => i.length + j.length ≤ sizeLine ∧ Q (.str (i ++ j)) H
  | .ref i, .ref j => rCat (.ref i) (.ref j) H Q ∨ rCatA K (.ref i) (.ref j) H Q
  | _, _ => False
theorem uo_addT : OpR X (binaryOp .Add) (oAddT X.K) := by
  intro pins s σ H x y v u Q I rx ry h
  cases x <;> cases y <;> first
    | exact False.elim h
    | exact op_add pins s σ H _ _ v u Q I rx ry ⟨_, _, rfl, rfl, h⟩
    | exact op_add_str pins s σ H _ _ v u Q I rx ry ⟨_, _, rfl, rfl, h⟩
    | exact h.elim (op_cat pins s σ H _ _ v u Q I rx ry) (op_catA pins s σ H _ _ v u Q I rx ry)
/-- str of an int, of a text -/
def rStrU : List V → Hp → VK → Prop := fun vs H Q => match vs with
  | [.int i] => i.natAbs.log2 < 1920 ∧ Q (.str (toString i)) H
  | _ => False
theorem cu_str : CallR X (.type "str") rStrU := imC call_str_int fun vs H Q h => by
  unfold rStrU at h
  split at h
  · exact ⟨_, rfl, h⟩
  · exact h.elim
end
end GW
namespace GW
open PySem L2
section
variable {K : PySem.W.Frag} {T : List (Addr × Str)} {E : XK}
theorem new_obj {C : Cc} {H : Hp} {s : PenS} {a : Addr} {o : HO} (t : Stt T C H s) (n : H a = none) : Keep C H (upd H a o) ∧ Stt T C (upd H a o) s ∧ hide C.all (upd H a o) a = some o :=
  ⟨same_keep (same_new n), t.same (same_new n), hide_at (t.off n) upd_same⟩
theorem dxa_len {p : Option Addr} {H : Hp} : ∀ {vs : List V} {ds : List D}, DxA K p H vs ds → vs.length = ds.length
  | _, _, .nil => rfl
  | _, _, .cons _ b => by rw [List.length_cons, List.length_cons, dxa_len b]
theorem dxa_at {p : Option Addr} {H : Hp} : ∀ {vs : List V} {ds : List D} {i : Nat} {d : D}, DxA K p H vs ds → ds[i]? = some d → ∃ v, vs[i]? = some v ∧ Dx K p H v d
  | _, _, _, _, .nil, h => by cases h
  | _, _, 0, _, .cons a _, h => by cases h; exact ⟨_, rfl, a⟩
  | _, _, i + 1, _, .cons _ b, h => dxa_at (i := i) b h
theorem dxa_app {p : Option Addr} {H : Hp} : ∀ {vs us : List V} {ds es : List D}, DxA K p H vs ds → DxA K p H us es → DxA K p H (vs ++ us) (ds ++ es)
  | _, _, _, _, .nil, h => h
  | _, _, _, _, .cons a b, h => .cons a (dxa_app b h)
theorem dxa_take {p : Option Addr} {H : Hp} : ∀ {vs : List V} {ds : List D} (n : Nat), DxA K p H vs ds → DxA K p H (vs.take n) (ds.take n)
  | _, _, 0, _ => .nil
  | _, _, n + 1, .nil => .nil
  | _, _, n + 1, .cons a b => .cons a (dxa_take n b)
theorem dxa_drop {p : Option Addr} {H : Hp} : ∀ {vs : List V} {ds : List D} (n : Nat), DxA K p H vs ds → DxA K p H (vs.drop n) (ds.drop n)
  | _, _, 0, h => h
  | _, _, n + 1, .nil => .nil
  | _, _, n + 1, .cons a b => dxa_drop n b
theorem dxa_cat {p : Option Addr} {H : Hp} {vs : List V} {ds : List D} (h : DxA K p H vs ds) : ∀ n : Nat, DxA K p H (List.replicate n vs).flatten (List.replicate n ds).flatten
  | 0 => .nil
  | n + 1 => by
    rw [List.replicate_succ, List.replicate_succ, List.flatten_cons, List.flatten_cons]
    exact dxa_app h (dxa_cat h n)
theorem dv_lst {C : Cc} {H : Hp} {v : V} {ds : List D} (h : Dv K C H v (.lst ds)) : ∃ a xs, v = .ref a ∧ a ∉ C.all ∧ H a = some (.lst xs) ∧ DvA K C H xs ds := by
  cases h with
  | lst e q => exact ⟨_, _, rfl, (hide_get e).1, (hide_get e).2, q⟩
theorem dv_tup {C : Cc} {H : Hp} {v : V} {ds : List D} (h : Dv K C H v (.tup ds)) : ∃ a xs, v = .ref a ∧ SqT K (hide C.all H) a xs ∧ SqT K H a xs ∧ DvA K C H xs ds := by
  cases h with
  | tup e q => exact ⟨_, _, rfl, e, same_seqT hide_same e, q⟩
theorem dv_new_lst {C : Cc} {H : Hp} {s : PenS} {a : Addr} {xs : List V} {ds : List D} (t : Stt T C H s) (n : H a = none) (h : DvA K C H xs ds) : Dv K C (upd H a (.lst xs)) (.ref a) (.lst ds) :=
  .lst (new_obj t n).2.2 ((new_obj t n).1.dvA h)
theorem dv_new_tup {C : Cc} {H : Hp} {s : PenS} {a : Addr} {xs : List V} {ds : List D} (t : Stt T C H s) (n : H a = none) (h : DvA K C H xs ds) : Dv K C (upd H a (.tup xs)) (.ref a) (.tup ds) :=
  .tup (SqT.of (new_obj t n).2.2) ((new_obj t n).1.dvA h)
/-! ### operations -/
def dAdd : D → D → M D
  | .int i, .int j => M.ok (.int (i + j))
  | .str i, .str j => chk (decide (i.length + j.length ≤ sizeLine)) (M.ok (.str (i ++ j)))
  | .lst a, .lst b => chk (decide (a.length + b.length ≤ sizeLine)) (M.ok (.lst (a ++ b)))
  | .tup a, .tup b => chk (decide (a.length + b.length ≤ sizeLine)) (M.ok (.tup (a ++ b)))
  | _, _ => fun _ => .bad
theorem s2_add : S2 (K := K) (T := T) (E := E) (oAddT K) dAdd := fun C x y dx dy H s Q hx hy t h => by
  cases dx <;> cases dy <;> first
    | exact False.elim h
    | skip
  · cases hx; cases hy
    exact h _ H (Keep.refl H) t (.int _)
  · cases hx; cases hy
    obtain ⟨hb, h⟩ := chk_wp h
    exact ⟨of_decide_eq_true hb, h _ H (Keep.refl H) t (.str _)⟩
  · obtain ⟨hb, h⟩ := chk_wp h
    obtain ⟨a, xs, rfl, na, ha, qa⟩ := dv_lst hx
    obtain ⟨b, ys, rfl, nb, hb', qb⟩ := dv_lst hy
    refine Or.inl ⟨a, b, xs, ys, rfl, rfl, ha, hb', by rw [dxa_len qa, dxa_len qb]; exact of_decide_eq_true hb, fun p hp => ?_⟩
    obtain ⟨k, t', _⟩ := new_obj (o := .lst (xs ++ ys)) t hp
    exact h _ _ k t' (dv_new_lst t hp (dxa_app qa qb))
  · obtain ⟨hb, h⟩ := chk_wp h
    obtain ⟨a, xs, rfl, ea', ea, qa⟩ := dv_tup hx
    obtain ⟨b, ys, rfl, eb', eb, qb⟩ := dv_tup hy
    refine Or.inr ⟨a, b, xs, ys, rfl, rfl, ea, eb, by rw [dxa_len qa, dxa_len qb]; exact of_decide_eq_true hb, fun z => ?_, fun _ z => ?_, fun _ _ p hp => ?_⟩
    · subst z
      cases qa
      exact h _ H (Keep.refl H) t (.tup eb' qb)
    · subst z
      cases qb
      rw [List.append_nil] at h
      exact h _ H (Keep.refl H) t (.tup ea' qa)
    · obtain ⟨k, t', _⟩ := new_obj (o := .tup (xs ++ ys)) t hp
      exact h _ _ k t' (dv_new_tup t hp (dxa_app qa qb))
def dSub : D → D → M D
  | .int i, .int j => M.ok (.int (i - j))
  | _, _ => fun _ => .bad
theorem s2_sub : S2 (K := K) (T := T) (E := E) oSub dSub := fun C x y dx dy H s Q hx hy t h => by
  cases dx <;> cases dy <;> first
    | exact False.elim h
    | (cases hx; cases hy; exact h _ H (Keep.refl H) t (.int _))
/-- |i| at most n: by Nat.ble, so that the kernel stops at an open i -/
def absLe (n : Nat) : Int → Bool
  | .ofNat m => Nat.ble m n
  | .negSucc m => Nat.ble (m + 1) n
theorem absLe_iff {n : Nat} {i : Int} : absLe n i = true ↔ -(n : Int) ≤ i ∧ i ≤ n := by
  cases i with
  | ofNat m =>
    unfold absLe
    rw [Nat.ble_eq]
    constructor
    · intro h; constructor <;> simp <;> omega
    · intro h; have := h.2; simp at this; omega
  | negSucc m =>
    unfold absLe
    rw [Nat.ble_eq]
    constructor
    · intro h; constructor <;> omega
    · intro h; omega
def mulOk (i j : Int) : Bool := absLe 18446744073709551615 i || absLe 18446744073709551615 j
theorem mulOk_ok {i j : Int} (h : mulOk i j = true) : CMul i j := by
  simp only [mulOk, Bool.or_eq_true, absLe_iff] at h
  rcases h with h | h
  · exact .inl ⟨by omega, by omega⟩
  · exact .inr ⟨by omega, by omega⟩
def dMul : D → D → M D
  | .int i, .int j => chk (mulOk i j) (M.ok (.int (i * j)))
  | .lst a, .int j => chk (decide (-1000 ≤ j) && (decide (j ≤ 1000) && decide (a.length ≤ 1000))) (M.ok (.lst (List.replicate j.toNat a).flatten))
  | .tup a, .int j => chk (decide (-1000 ≤ j) && (decide (j ≤ 1000) && decide (a.length ≤ 1000))) (M.ok (.tup (if a = [] ∨ j = 1 then a else (List.replicate j.toNat a).flatten)))
  | _, _ => fun _ => .bad
theorem rep_bound {j : Int} {n : Nat} (h1 : -1000 ≤ j) (h2 : j ≤ 1000) (h3 : n ≤ 1000) : n * j.toNat ≤ sizeLine := by
  have a : j.toNat ≤ 1000 := by omega
  have b : n * j.toNat ≤ 1000 * 1000 := Nat.mul_le_mul h3 a
  exact Nat.le_trans b (by decide)
theorem mul_tup {C : Cc} {x : V} {ds : List D} {j : Int} {H : Hp} {s : PenS} {Q : VK} (hx : Dv K C H x (.tup ds)) (t : Stt T C H s) (h : (dMul (.tup ds) (.int j) s).wp (KQ K T C H Q) (KE K T E C H)) : oMulU K x (.int j) H Q := by
  obtain ⟨hb, h⟩ := chk_wp h
  simp only [Bool.and_eq_true, decide_eq_true_eq] at hb
  obtain ⟨a, xs, rfl, ea', ea, qa⟩ := dv_tup hx
  have el := dxa_len qa
  refine Or.inr ⟨a, _, xs, rfl, rfl, ea, by omega, by omega, by omega, fun z => ?_, fun z1 z2 p hp => ?_⟩
  · have e : ds = [] ∨ j = 1 := z.imp (fun z => by subst z; cases qa; rfl) id
    rw [if_pos e] at h
    exact h _ H (Keep.refl H) t (.tup ea' qa)
  · have e : ¬ (ds = [] ∨ j = 1) := fun z => z.elim (fun z => z1 (by subst z; cases qa; rfl)) z2
    rw [if_neg e] at h
    obtain ⟨k, t', _⟩ := new_obj (o := .tup (List.replicate (Int.toNat j) xs).flatten) t hp
    exact h _ _ k t' (dv_new_tup t hp (dxa_cat qa _))
theorem s2_mul : S2 (K := K) (T := T) (E := E) (oMulU K) dMul := fun C x y dx dy H s Q hx hy t h => by
  cases dx <;> cases dy <;> first
    | exact False.elim h
    | skip
  · cases hx; cases hy
    obtain ⟨hb, h⟩ := chk_wp h
    exact ⟨mulOk_ok hb, h _ H (Keep.refl H) t (.int _)⟩
  · cases hy
    obtain ⟨hb, h⟩ := chk_wp h
    simp only [Bool.and_eq_true, decide_eq_true_eq] at hb
    obtain ⟨a, xs, rfl, na, ha, qa⟩ := dv_lst hx
    have el := dxa_len qa
    refine Or.inl ⟨a, _, xs, rfl, rfl, ha, by omega, by omega, rep_bound hb.1 hb.2.1 (by omega), fun p hp => ?_⟩
    obtain ⟨k, t', _⟩ := new_obj (o := .lst (List.replicate (Int.toNat _) xs).flatten) t hp
    exact h _ _ k t' (dv_new_lst t hp (dxa_cat qa _))
  · cases hy
    exact mul_tup hx t h
def dMod : D → D → M D
  | .int i, .int j => chk (decide (0 < j)) (M.ok (.int (i % j)))
  | _, _ => fun _ => .bad
theorem s2_mod : S2 (K := K) (T := T) (E := E) oMod dMod := fun C x y dx dy H s Q hx hy t h => by
  cases dx <;> cases dy <;> first
    | exact False.elim h
    | (cases hx; cases hy; obtain ⟨hb, h⟩ := chk_wp h; exact ⟨of_decide_eq_true hb, h _ H (Keep.refl H) t (.int _)⟩)
def dDiv : D → D → M D
  | .int i, .int j => chk (decide (0 < j) && absLe 1073741823 j) (M.ok (.int (i / j)))
  | _, _ => fun _ => .bad
theorem s2_div : S2 (K := K) (T := T) (E := E) oDiv dDiv := fun C x y dx dy H s Q hx hy t h => by
  cases dx <;> cases dy <;> first
    | exact False.elim h
    | (cases hx; cases hy; obtain ⟨hb, h⟩ := chk_wp h; simp only [Bool.and_eq_true, decide_eq_true_eq, absLe_iff] at hb; exact ⟨⟨hb.1, by have := hb.2.2; omega⟩, h _ H (Keep.refl H) t (.int _)⟩)
def dPow : D → D → M D
  | .int i, .int j => chk (decide (0 ≤ j) && (decide (j ≤ 1000000) && decide (i.natAbs < 2 ^ 64))) (M.ok (.int (i ^ j.toNat)))
  | _, _ => fun _ => .bad
theorem s2_pow : S2 (K := K) (T := T) (E := E) oPow dPow := fun C x y dx dy H s Q hx hy t h => by
  cases dx <;> cases dy <;> first
    | exact False.elim h
    | (cases hx; cases hy; obtain ⟨hb, h⟩ := chk_wp h; simp only [Bool.and_eq_true, decide_eq_true_eq] at hb; exact ⟨hb, h _ H (Keep.refl H) t (.int _)⟩)
def dOrd (p : Int → Int → Bool) (q : List Nat → List Nat → Bool) : D → D → M D
  | .int i, .int j => M.ok (.bl (p i j))
  | .str i, .str j => M.ok (.bl (q i.cps.toList j.cps.toList))
  | _, _ => fun _ => .bad
theorem s2_ord (p : Int → Int → Bool) (q : List Nat → List Nat → Bool) : S2 (K := K) (T := T) (E := E) (oOrd p q) (dOrd p q) := fun C x y dx dy H s Q hx hy t h => by
  cases dx <;> cases dy <;> first
    | exact False.elim h
    | (cases hx; cases hy; exact h _ H (Keep.refl H) t (.bl _))
abbrev dLt := dOrd (fun i j => decide (i < j)) fun i j => decide (i < j)
abbrev dLe := dOrd (fun i j => decide (i ≤ j)) fun i j => !decide (j < i)
abbrev dGt := dOrd (fun i j => decide (j < i)) fun i j => decide (j < i)
abbrev dGe := dOrd (fun i j => decide (j ≤ i)) fun i j => !decide (i < j)
def dNeg : D → M D
  | .int i => M.ok (.int (-i))
  | _ => fun _ => .bad
def dUn (f : D → M D) (a : En → M D) : En → M D := fun ρ => M.bind (a ρ) f
theorem se_neg {ta : TE} {a : En → M D} (ha : SE K T E ta a) : SE K T E (tUn oNeg ta) (dUn dNeg a) := fun C σ H ρ s Q e t h => by
  refine ha C σ H ρ s _ e t (R.wp_mono (M.wp_bind h) (fun d s1 h1 v H1 k1 t1 dv => ?_) fun _ _ _ _ h => h)
  cases d <;> first
    | exact False.elim h1
    | (cases dv; exact h1 _ H1 k1 t1 (.int _))
/-! ### data -/
mutual
def toPy : D → Option PyData
  | .non => some .none
  | .bl b => some (.bool b)
  | .int i => some (.int i)
  | .str s => some (.str s)
  | .lst ds => (toPyA ds).map .list
  | .tup ds => (toPyA ds).map .tuple
  | .dct _ _ => none
  | .pen => none
def toPyA : List D → Option (List PyData)
  | [] => some []
  | d :: ds => match toPy d, toPyA ds with
    | some a, some b => some (a :: b)
    | _, _ => none
end
mutual
theorem toPy_dp {p : Option Addr} {G H : Hp} (s : Same G H) : ∀ (d : D) (v : V) (q : PyData), toPy d = some q → Dx K p G v d → Dp K H v q
  | .non, _, _, e, h => by cases h; cases e; exact .non
  | .bl b, _, _, e, h => by cases h; cases e; exact .bl b
  | .int i, _, _, e, h => by cases h; cases e; exact .int i
  | .str x, _, _, e, h => by cases h; cases e; exact .str x
  | .lst ds, _, _, e, h => by
    cases h with
    | lst q a =>
      unfold toPy at e
      cases z : toPyA ds with
      | none => rw [z] at e; cases e
      | some qs =>
        rw [z] at e
        cases e
        exact .lst (SqL.of (s _ _ q)) (toPyA_dp s ds _ qs z a)
  | .tup ds, _, _, e, h => by
    cases h with
    | tup q a =>
      unfold toPy at e
      cases z : toPyA ds with
      | none => rw [z] at e; cases e
      | some qs =>
        rw [z] at e
        cases e
        exact .tup (same_seqT s q) (toPyA_dp s ds _ qs z a)
  | .dct _ _, _, _, e, _ => by cases e
  | .pen, _, _, e, _ => by cases e
theorem toPyA_dp {p : Option Addr} {G H : Hp} (s : Same G H) : ∀ (ds : List D) (vs : List V) (qs : List PyData), toPyA ds = some qs → DxA K p G vs ds → DpAll K H vs qs
  | [], _, _, e, h => by cases h; cases e; exact .nil
  | d :: ds, _, _, e, h => by
    cases h with
    | cons a b =>
      unfold toPyA at e
      cases z1 : toPy d with
      | none => rw [z1] at e; cases e
      | some q1 =>
        cases z2 : toPyA ds with
        | none => rw [z1, z2] at e; cases e
        | some q2 =>
          rw [z1, z2] at e
          cases e
          exact .cons (toPy_dp s d _ _ z1 a) (toPyA_dp s ds _ _ z2 b)
end
theorem dv_dp {C : Cc} {H : Hp} {v : V} {d : D} {q : PyData} (h : Dv K C H v d) (e : toPy d = some q) : Dp K H v q := toPy_dp hide_same d v q e h
def scalD : D → D → Bool
  | .non, .non => true | .non, .int _ => true | .int _, .non => true | .non, .bl _ => true | .bl _, .non => true | .non, .str _ => true | .str _, .non => true
  | .int _, .int _ => true | .bl _, .bl _ => true | .str _, .str _ => true
  | .int _, .str _ => true | .str _, .int _ => true | .bl _, .str _ => true | .str _, .bl _ => true
  | _, _ => false
/-- == of two values of which scalD holds -/
def eqS : D → D → Bool
  | .non, .non => true
  | .int i, .int j => decide (i = j)
  | .bl i, .bl j => decide (i = j)
  | .str i, .str j => decide (i = j)
  | _, _ => false
/-- == by data -/
def eqP (a b : D) (f : Bool → M D) : M D := match toPy a, toPy b with
  | some x, some y => chk (SeqAt.shaped x && SeqAt.shaped y) (f (PyData.eqv x y))
  | _, _ => fun _ => .bad
def dEqG (neg : Bool) (a b : D) : M D := match scalD a b with
  | true => M.ok (.bl (ng neg (eqS a b)))
  | false => eqP a b fun b => M.ok (.bl (ng neg b))
abbrev dEq := dEqG false
abbrev dNe := dEqG true
theorem eqP_wp {C : Cc} {H : Hp} {a b : D} {x y : V} {f : Bool → M D} {s : PenS} {Q : D → PenS → Prop} {F : Str → List Str → List D → PenS → Prop} (hx : Dv K C H x a) (hy : Dv K C H y b) (h : (eqP a b f s).wp Q F) :
    ∃ d e, Dp K H x d ∧ Dp K H y e ∧ SeqAt.shaped d = true ∧ SeqAt.shaped e = true ∧ (f (PyData.eqv d e) s).wp Q F := by
  unfold eqP at h
  cases z1 : toPy a with
  | none => rw [z1] at h; exact False.elim h
  | some q1 =>
    cases z2 : toPy b with
    | none => rw [z1, z2] at h; exact False.elim h
    | some q2 =>
      rw [z1, z2] at h
      obtain ⟨hb, h⟩ := chk_wp h
      simp only [Bool.and_eq_true] at hb
      exact ⟨q1, q2, dv_dp hx z1, dv_dp hy z2, hb.1, hb.2, h⟩
theorem scal_of {C : Cc} {H : Hp} {a b : D} {x y : V} (hx : Dv K C H x a) (hy : Dv K C H y b) (e : scalD a b = true) : scal x y = true ∧ decide (x = y) = eqS a b := by
  cases hx <;> cases hy <;> first
    | exact ⟨rfl, by simp [eqS]⟩
    | cases e
theorem scal_not {C : Cc} {H : Hp} {a b : D} {x y : V} (hx : Dv K C H x a) (hy : Dv K C H y b) (e : scalD a b = false) : scal x y = false := by
  cases hx <;> cases hy <;> first
    | rfl
    | cases e
theorem s2_eq : S2 (K := K) (T := T) (E := E) (oEq K) dEq := fun C x y dx dy H s Q hx hy t h => by
  unfold oEq
  unfold dEq dEqG at h
  cases e : scalD dx dy with
  | true =>
    obtain ⟨e1, e2⟩ := scal_of hx hy e
    rw [e] at h
    rw [e1]
    show Q (.bl (decide (x = y))) H
    rw [e2]
    exact h _ H (Keep.refl H) t (.bl _)
  | false =>
    rw [scal_not hx hy e]
    rw [e] at h
    obtain ⟨d, d2, h1, h2, h3, h4, h5⟩ := eqP_wp hx hy h
    exact ⟨d, d2, h1, h2, h3, h4, h5 _ H (Keep.refl H) t (.bl _)⟩
theorem s2_ne : S2 (K := K) (T := T) (E := E) (oNe K) dNe := fun C x y dx dy H s Q hx hy t h => by
  unfold oNe
  unfold dNe dEqG at h
  cases e : scalD dx dy with
  | true =>
    obtain ⟨e1, e2⟩ := scal_of hx hy e
    rw [e] at h
    rw [e1]
    show Q (.bl (!decide (x = y))) H
    rw [e2]
    exact h _ H (Keep.refl H) t (.bl _)
  | false =>
    rw [scal_not hx hy e]
    rw [e] at h
    obtain ⟨d, d2, h1, h2, h3, h4, h5⟩ := eqP_wp hx hy h
    exact ⟨d, d2, h1, h2, h3, h4, h5 _ H (Keep.refl H) t (.bl _)⟩
def dIs (neg : Bool) : D → D → M D
  | .non, .non => M.ok (.bl (ng neg true))
  | _, .non => M.ok (.bl (ng neg false))
  | .bl a, .bl b => M.ok (.bl (ng neg (decide (a = b))))
  | _, _ => fun _ => .bad
theorem s2_is (neg : Bool) : S2 (K := K) (T := T) (E := E) (oIs neg) (dIs neg) := fun C x y dx dy H s Q hx hy t h => by
  cases hy with
  | non =>
    cases hx <;> first
      | exact h _ H (Keep.refl H) t (.bl _)
      | (simp only [oIs]; rw [decide_eq_false (fun z => by cases z)]; exact h _ H (Keep.refl H) t (.bl _))
  | bl b =>
    cases hx with
    | bl a => exact h _ H (Keep.refl H) t (.bl _)
    | _ => exact False.elim h
  | _ => cases hx <;> exact False.elim h
end
end GW

namespace GW
open PySem L2
section
variable {K : PySem.W.Frag} {T : List (Addr × Str)} {E : XK}
theorem kq_step {C : Cc} {H H1 : Hp} {r : R D} {Q : VK} (k : Keep C H H1) (h : r.wp (KQ K T C H Q) (KE K T E C H)) : r.wp (KQ K T C H1 Q) (KE K T E C H1) :=
  R.wp_mono h (fun _ _ h v H' k' => h v H' (k.trans k')) fun _ _ _ _ h => ke_step k h
theorem kb_step {C : Cc} {H H1 : Hp} {r : R Bool} {Q : Bool → Hp → Prop} (k : Keep C H H1) (h : r.wp (fun b s' => ∀ H', Keep C H H' → Stt T C H' s' → Q b H') (KE K T E C H)) : r.wp (fun b s' => ∀ H', Keep C H1 H' → Stt T C H' s' → Q b H') (KE K T E C H1) :=
  R.wp_mono h (fun _ _ h H' k' => h H' (k.trans k')) fun _ _ _ _ h => ke_step k h
abbrev OK (K : PySem.W.Frag) (T : List (Addr × Str)) (C : Cc) (H : Hp) (N : Ends) : Out → PenS → Prop := fun o s' => ∀ H', Keep C H H' → Stt T C H' s' → match o with
  | .nx ρ' => ∀ σ', Env K C H' σ' ρ' → N.nx σ' H'
  | .rt d => ∀ v, Dv K C H' v d → N.rt v H'
theorem ko_step {C : Cc} {H H1 : Hp} {r : R Out} {N : Ends} (k : Keep C H H1) (h : r.wp (OK K T C H N) (KE K T E C H)) : r.wp (OK K T C H1 N) (KE K T E C H1) :=
  R.wp_mono h (fun _ _ h H' k' => h H' (k.trans k')) fun _ _ _ _ h => ke_step k h
theorem se_then {ta : TE} {a : En → M D} (ha : SE K T E ta a) {C : Cc} {σ : St} {H : Hp} {ρ : En} {s : PenS} (e : Env K C H σ ρ) (t : Stt T C H s) {β : Type} {f : D → M β} {W : β → PenS → Prop} {Q : VK} (h : (M.bind (a ρ) f s).wp W (KE K T E C H))
    (next : ∀ d s1 v H1, Keep C H H1 → Stt T C H1 s1 → Dv K C H1 v d → Env K C H1 σ ρ → (f d s1).wp W (KE K T E C H) → Q v H1) : ta σ H Q :=
  ha C σ H ρ s _ e t (R.wp_mono (M.wp_bind h) (fun d s1 h1 v H1 k1 t1 dv => next d s1 v H1 k1 t1 dv (e.keep k1) h1) fun _ _ _ _ h => h)
theorem sa_then {ta : TA} {a : En → M (List D)} (ha : SA K T E ta a) {C : Cc} {σ : St} {H : Hp} {ρ : En} {s : PenS} (e : Env K C H σ ρ) (t : Stt T C H s) {β : Type} {f : List D → M β} {W : β → PenS → Prop} {Q : List V → Hp → Prop} (h : (M.bind (a ρ) f s).wp W (KE K T E C H))
    (next : ∀ d s1 v H1, Keep C H H1 → Stt T C H1 s1 → DvA K C H1 v d → Env K C H1 σ ρ → (f d s1).wp W (KE K T E C H) → Q v H1) : ta σ H Q :=
  ha C σ H ρ s _ e t (R.wp_mono (M.wp_bind h) (fun d s1 h1 v H1 k1 t1 dv => next d s1 v H1 k1 t1 dv (e.keep k1) h1) fun _ _ _ _ h => h)
theorem st_then {ta : TT} {a : En → M Bool} (ha : ST K T E ta a) {C : Cc} {σ : St} {H : Hp} {ρ : En} {s : PenS} (e : Env K C H σ ρ) (t : Stt T C H s) {β : Type} {f : Bool → M β} {W : β → PenS → Prop} {Q : Bool → Hp → Prop} (h : (M.bind (a ρ) f s).wp W (KE K T E C H))
    (next : ∀ d s1 H1, Keep C H H1 → Stt T C H1 s1 → Env K C H1 σ ρ → (f d s1).wp W (KE K T E C H) → Q d H1) : ta σ H Q :=
  ha C σ H ρ s _ e t (R.wp_mono (M.wp_bind h) (fun d s1 h1 H1 k1 t1 => next d s1 H1 k1 t1 (e.keep k1) h1) fun _ _ _ _ h => h)
/-! ### truth -/
def asB {α : Type} (f : Bool → M α) : D → M α
  | .bl b => f b
  | _ => fun _ => .bad
theorem asB_wp {α : Type} {f : Bool → M α} {d : D} {s : PenS} {W : α → PenS → Prop} {F : Str → List Str → List D → PenS → Prop} (h : (asB f d s).wp W F) : ∃ b, d = .bl b ∧ (f b s).wp W F := by
  cases d <;> first
    | exact ⟨_, rfl, h⟩
    | exact False.elim h
def dAnd (a b : En → M D) : En → M D := fun ρ => M.bind (a ρ) (asB fun c => match c with
  | true => b ρ
  | false => M.ok (.bl false))
def dOr (a b : En → M D) : En → M D := fun ρ => M.bind (a ρ) (asB fun c => match c with
  | true => M.ok (.bl true)
  | false => b ρ)
def dNot (a : En → M D) : En → M D := fun ρ => M.bind (a ρ) (asB fun c => M.ok (.bl (!c)))
theorem se_and {ta tb : TE} {a b : En → M D} (ha : SE K T E ta a) (hb : SE K T E tb b) : SE K T E (mAnd ta tb) (dAnd a b) := fun C σ H ρ s Q e t h =>
  se_then ha e t h fun d s1 v H1 k1 t1 dv e1 h1 => by
    obtain ⟨c, rfl, h1⟩ := asB_wp h1
    cases dv
    cases c with
    | true => exact hb C σ H1 ρ s1 Q e1 t1 (kq_step k1 h1)
    | false => exact h1 _ H1 k1 t1 (.bl _)
theorem se_or {ta tb : TE} {a b : En → M D} (ha : SE K T E ta a) (hb : SE K T E tb b) : SE K T E (mOr ta tb) (dOr a b) := fun C σ H ρ s Q e t h =>
  se_then ha e t h fun d s1 v H1 k1 t1 dv e1 h1 => by
    obtain ⟨c, rfl, h1⟩ := asB_wp h1
    cases dv
    cases c with
    | true => exact h1 _ H1 k1 t1 (.bl _)
    | false => exact hb C σ H1 ρ s1 Q e1 t1 (kq_step k1 h1)
theorem se_not {ta : TE} {a : En → M D} (ha : SE K T E ta a) : SE K T E (mNot ta) (dNot a) := fun C σ H ρ s Q e t h =>
  se_then ha e t h fun d s1 v H1 k1 t1 dv e1 h1 => by
    obtain ⟨c, rfl, h1⟩ := asB_wp h1
    cases dv
    exact h1 _ H1 k1 t1 (.bl _)
def dChain (f g : D → D → M D) (a b c : En → M D) : En → M D := fun ρ => M.bind (a ρ) fun x => M.bind (b ρ) fun y => M.bind (f x y) (asB fun k => match k with
  | true => M.bind (c ρ) fun z => g y z
  | false => M.ok (.bl false))
theorem se_chain {r r' : R2} {f g : D → D → M D} {ta tb tc : TE} {a b c : En → M D} (hr : S2 (K := K) (T := T) (E := E) r f) (hr' : S2 (K := K) (T := T) (E := E) r' g) (ha : SE K T E ta a) (hb : SE K T E tb b) (hc : SE K T E tc c) :
    SE K T E (mChain r r' ta tb tc) (dChain f g a b c) := fun C σ H ρ s Q e t h =>
  se_then ha e t h fun d s1 v H1 k1 t1 dv e1 h1 => by
    refine hb C σ H1 ρ s1 _ e1 t1 (R.wp_mono (M.wp_bind h1) (fun d2 s2 h2 v2 H2 k2 t2 dv2 => ?_) fun _ _ _ _ h => ke_step k1 h)
    have k12 := k1.trans k2
    refine hr C v v2 d d2 H2 s2 _ (k2.dv dv) dv2 t2 (R.wp_mono (M.wp_bind h2) (fun d3 s3 h3 v3 H3 k3 t3 dv3 => ?_) fun _ _ _ _ h => ke_step k12 h)
    obtain ⟨b, rfl, h3⟩ := asB_wp h3
    cases dv3
    have k13 := k12.trans k3
    cases b with
    | false => exact h3 _ H3 k13 t3 (.bl _)
    | true =>
      refine hc C σ H3 ρ s3 _ ((e1.keep k2).keep k3) t3 (R.wp_mono (M.wp_bind h3) (fun d4 s4 h4 v4 H4 k4 t4 dv4 => ?_) fun _ _ _ _ h => ke_step k13 h)
      exact hr' C v2 v4 d2 d4 H4 s4 Q ((k3.trans k4).dv dv2) dv4 t4 (kq_step (k13.trans k4) h4)
def dTest (a : En → M D) : En → M Bool := fun ρ => M.bind (a ρ) (asB M.ok)
theorem st_test {ta : TE} {a : En → M D} (ha : SE K T E ta a) : ST K T E (mTest ta) (dTest a) := fun C σ H ρ s Q e t h =>
  se_then ha e t h fun d s1 v H1 k1 t1 dv e1 h1 => by
    obtain ⟨c, rfl, h1⟩ := asB_wp h1
    cases dv
    exact h1 H1 k1 t1
def truD : D → M Bool
  | .bl b => M.ok b
  | .non => M.ok false
  | .int i => M.ok (i != 0)
  | .str z => chk (decide (z.length ≤ sizeLine)) (M.ok ((z.length : Int) != 0))
  | .lst ds => M.ok (!ds.isEmpty)
  | .tup ds => M.ok (!ds.isEmpty)
  | .dct ks _ => M.ok (!ks.isEmpty)
  | .pen => fun _ => .bad
def dTru (a : En → M D) : En → M Bool := fun ρ => M.bind (a ρ) truD
theorem dxa_nil {p : Option Addr} {H : Hp} {vs : List V} {ds : List D} (h : DxA K p H vs ds) : vs.isEmpty = ds.isEmpty := by cases h <;> rfl
theorem st_tru {ta : TE} {a : En → M D} (ha : SE K T E ta a) : ST K T E (mTru K ta) (dTru a) := fun C σ H ρ s Q e t h =>
  se_then ha e t h fun d s1 v H1 k1 t1 dv e1 h1 => by
    cases d with
    | bl b => cases dv; exact h1 H1 k1 t1
    | non => cases dv; exact h1 H1 k1 t1
    | int i => cases dv; exact h1 H1 k1 t1
    | str z =>
      cases dv
      obtain ⟨hb, h1⟩ := chk_wp h1
      exact ⟨of_decide_eq_true hb, h1 H1 k1 t1⟩
    | lst ds =>
      obtain ⟨a, xs, rfl, na, ha, qa⟩ := dv_lst dv
      refine ⟨_, .inl ⟨xs, SqL.of ha, rfl⟩, ?_⟩
      rw [dxa_nil qa]
      exact h1 H1 k1 t1
    | tup ds =>
      obtain ⟨a, xs, rfl, ea', ea, qa⟩ := dv_tup dv
      refine ⟨_, .inr (.inl ⟨xs, ea, rfl⟩), ?_⟩
      rw [dxa_nil qa]
      exact h1 H1 k1 t1
    | dct ks ds =>
      cases dv with
      | dct e l q =>
        refine ⟨_, .inr (.inr ⟨_, (hide_get e).2, rfl⟩), ?_⟩
        rename_i xs
        have z : (ks.zip xs).isEmpty = ks.isEmpty := by
          cases ks <;> cases xs <;> first
            | rfl
            | cases l
        rw [z]
        exact h1 H1 k1 t1
    | pen => exact False.elim h1
def dTAnd (a b : En → M Bool) : En → M Bool := fun ρ => M.bind (a ρ) fun c => match c with
  | true => b ρ
  | false => M.ok false
def dTOr (a b : En → M Bool) : En → M Bool := fun ρ => M.bind (a ρ) fun c => match c with
  | true => M.ok true
  | false => b ρ
def dTNot (a : En → M Bool) : En → M Bool := fun ρ => M.bind (a ρ) fun c => M.ok (!c)
theorem st_and {ta tb : TT} {a b : En → M Bool} (ha : ST K T E ta a) (hb : ST K T E tb b) : ST K T E (tAnd ta tb) (dTAnd a b) := fun C σ H ρ s Q e t h =>
  st_then ha e t h fun c s1 H1 k1 t1 e1 h1 => by
    cases c with
    | true => exact hb C σ H1 ρ s1 Q e1 t1 (kb_step k1 h1)
    | false => exact h1 H1 k1 t1
theorem st_or {ta tb : TT} {a b : En → M Bool} (ha : ST K T E ta a) (hb : ST K T E tb b) : ST K T E (tOr ta tb) (dTOr a b) := fun C σ H ρ s Q e t h =>
  st_then ha e t h fun c s1 H1 k1 t1 e1 h1 => by
    cases c with
    | true => exact h1 H1 k1 t1
    | false => exact hb C σ H1 ρ s1 Q e1 t1 (kb_step k1 h1)
theorem st_not {ta : TT} {a : En → M Bool} (ha : ST K T E ta a) : ST K T E (tNot ta) (dTNot a) := fun C σ H ρ s Q e t h =>
  st_then ha e t h fun c s1 H1 k1 t1 e1 h1 => h1 H1 k1 t1
theorem st_yes : ST K T E tYes fun _ => M.ok true := fun C σ H ρ s Q e t h => h H (Keep.refl H) t
def dIf (c : En → M Bool) (a b : En → M D) : En → M D := fun ρ => M.bind (c ρ) fun k => match k with
  | true => a ρ
  | false => b ρ
theorem se_if {tc : TT} {ta tb : TE} {c : En → M Bool} {a b : En → M D} (hc : ST K T E tc c) (ha : SE K T E ta a) (hb : SE K T E tb b) : SE K T E (tIf tc ta tb) (dIf c a b) := fun C σ H ρ s Q e t h =>
  st_then hc e t h fun k s1 H1 k1 t1 e1 h1 => by
    cases k with
    | true => exact ha C σ H1 ρ s1 Q e1 t1 (kq_step k1 h1)
    | false => exact hb C σ H1 ρ s1 Q e1 t1 (kq_step k1 h1)
/-! ### displays -/
def dTup (a : En → M (List D)) : En → M D := fun ρ => M.bind (a ρ) fun ds => chk (decide (ds.length ≤ sizeLine)) (M.ok (.tup ds))
def dLst (a : En → M (List D)) : En → M D := fun ρ => M.bind (a ρ) fun ds => chk (decide (ds.length ≤ sizeLine)) (M.ok (.lst ds))
theorem se_tup {ta : TA} {a : En → M (List D)} (ha : SA K T E ta a) : SE K T E (tTup ta) (dTup a) := fun C σ H ρ s Q e t h =>
  sa_then ha e t h fun ds s1 vs H1 k1 t1 dv e1 h1 => by
    obtain ⟨hb, h1⟩ := chk_wp h1
    refine ⟨by rw [dxa_len dv]; exact of_decide_eq_true hb, fun p hp => ?_⟩
    obtain ⟨k, t', _⟩ := new_obj (o := .tup vs) t1 hp
    exact h1 _ _ (k1.trans k) t' (dv_new_tup t1 hp dv)
theorem se_lst {ta : TA} {a : En → M (List D)} (ha : SA K T E ta a) : SE K T E (tLst ta) (dLst a) := fun C σ H ρ s Q e t h =>
  sa_then ha e t h fun ds s1 vs H1 k1 t1 dv e1 h1 => by
    obtain ⟨hb, h1⟩ := chk_wp h1
    refine ⟨by rw [dxa_len dv]; exact of_decide_eq_true hb, fun p hp => ?_⟩
    obtain ⟨k, t', _⟩ := new_obj (o := .lst vs) t1 hp
    exact h1 _ _ (k1.trans k) t' (dv_new_lst t1 hp dv)
theorem se_dnew : SE K T E tDNewK fun _ => M.ok (.dct [] []) := fun C σ H ρ s Q e t h => by
  intro p hp
  obtain ⟨k, t', z⟩ := new_obj (o := .dK []) t hp
  exact h _ _ k t' (.dct (xs := []) z rfl .nil)
/-! ### subscripts -/
theorem dxa_atI {p : Option Addr} {H : Hp} {vs : List V} {ds : List D} {i : Int} {d : D} (h : DxA K p H vs ds) (e : atI ds i = some d) : ∃ v, atI vs i = some v ∧ Dx K p H v d := by
  unfold atI at e ⊢
  rw [dxa_len h]
  cases z : ixN ds.length i with
  | none => rw [z] at e; cases e
  | some j =>
    rw [z] at e
    exact dxa_at h e
def asKey : D → Option Key
  | .int i => some (.inl i)
  | .str x => some (.inr x)
  | _ => none
def dGet : List Key → List D → Key → Option D
  | k :: ks, d :: ds, x => if k = x then some d else dGet ks ds x
  | _, _, _ => none
theorem asKey_kV {C : Cc} {H : Hp} {d : D} {v : V} {k : Key} (h : Dv K C H v d) (e : asKey d = some k) : v = kV k := by
  cases d <;> cases e
  · cases h; rfl
  · cases h; rfl
theorem dGet_val {p : Option Addr} {H : Hp} {x : Key} : ∀ {ks : List Key} {vs : List V} {ds : List D}, ks.length = vs.length → DxA K p H vs ds →
    match dGet ks ds x with
    | some d => ∃ v, valV (ks.zip vs) x = some v ∧ Dx K p H v d
    | none => valV (ks.zip vs) x = none
  | [], vs, ds, l, h => by
    cases vs with
    | nil => cases h; rfl
    | cons _ _ => cases l
  | k :: ks, vs, ds, l, h => by
    cases h with
    | nil => cases l
    | @cons v d vs ds h1 h2 =>
      by_cases e : k = x
      · rw [show dGet (k :: ks) (d :: ds) x = some d by simp [dGet, e]]
        exact ⟨v, valV_pos (p := (k, v)) e, h1⟩
      · have ih := dGet_val (x := x) (ks := ks) (Nat.succ.inj l) h2
        have e1 : dGet (k :: ks) (d :: ds) x = dGet ks ds x := by simp [dGet, e]
        have e2 : valV ((k :: ks).zip (v :: vs)) x = valV (ks.zip vs) x := valV_neg (p := (k, v)) e
        rw [e1, e2]
        exact ih
def orBad {α β : Type} (o : Option α) (f : α → M β) : M β := match o with
  | some a => f a
  | none => fun _ => .bad
theorem orBad_wp {α β : Type} {o : Option α} {f : α → M β} {s : PenS} {W : β → PenS → Prop} {F : Str → List Str → List D → PenS → Prop} (h : (orBad o f s).wp W F) : ∃ a, o = some a ∧ (f a s).wp W F := by
  cases o with
  | none => exact False.elim h
  | some a => exact ⟨a, rfl, h⟩
/-- pen[0]: the cells; pen[1]: how many were begun; pen[2]: what is left -/
def penIx (i : Int) : M D := fun s => if i = 0 then .ok (.lst (s.cells.map .int)) s else if i = 1 then .ok (.int s.at_) s else if i = 2 then .ok (.int s.left) s else .bad
def dIx : D → D → M D
  | .str z, .int i => chk (decide (z.length ≤ sizeLine)) (orBad (atI z.cps.toList i) fun c => M.ok (.str ⟨#[c]⟩))
  | .lst ds, .int i => orBad (atI ds i) M.ok
  | .tup ds, .int i => orBad (atI ds i) M.ok
  | .dct ks ds, k => orBad (asKey k) fun x => orBad (dGet ks ds x) M.ok
  | .pen, .int i => penIx i
  | _, _ => fun _ => .bad
theorem dxa_ints {p : Option Addr} {H : Hp} : ∀ ns : List Int, DxA K p H (ns.map V.int) (ns.map D.int)
  | [] => .nil
  | n :: ns => .cons (.int n) (dxa_ints ns)
theorem pen_ix {C : Cc} {x : V} {i : Int} {H : Hp} {s : PenS} {Q : VK} (hx : Dv K C H x .pen) (t : Stt T C H s) (h : (penIx i s).wp (KQ K T C H Q) (KE K T E C H)) : oIx K x (.int i) H Q := by
  cases hx with
  | pen e =>
    cases ep : C.pen with
    | none => rw [Cc.p, ep] at e; cases e
    | some pc =>
      obtain ⟨p, c⟩ := pc
      rw [Cc.p, ep] at e
      cases e
      obtain ⟨z1, z2, z3, z4⟩ := t.pen _ _ ep
      unfold penIx at h
      by_cases e0 : i = 0
      · rw [if_pos e0] at h
        subst e0
        exact Or.inl ⟨_, 0, .ref c, rfl, .inl (SqL.of z3), rfl, h _ H (Keep.refl H) t (.lst (hide_at z2 z4) (dxa_ints _))⟩
      · rw [if_neg e0] at h
        by_cases e1 : i = 1
        · rw [if_pos e1] at h
          subst e1
          exact Or.inl ⟨_, 1, _, rfl, .inl (SqL.of z3), rfl, h _ H (Keep.refl H) t (.int _)⟩
        · rw [if_neg e1] at h
          by_cases e2 : i = 2
          · rw [if_pos e2] at h
            subst e2
            exact Or.inl ⟨_, 2, _, rfl, .inl (SqL.of z3), rfl, h _ H (Keep.refl H) t (.int _)⟩
          · rw [if_neg e2] at h
            exact False.elim h
theorem s2_ix : S2 (K := K) (T := T) (E := E) (oIx K) dIx := fun C x y dx dy H s Q hx hy t h => by
  cases dx with
  | str z =>
    cases dy <;> first
      | exact False.elim h
      | skip
    cases hx; cases hy
    obtain ⟨hb, h⟩ := chk_wp h
    obtain ⟨c, hc, h⟩ := orBad_wp h
    exact ⟨of_decide_eq_true hb, c, hc, h _ H (Keep.refl H) t (.str _)⟩
  | lst ds =>
    cases dy <;> first
      | exact False.elim h
      | skip
    cases hy
    obtain ⟨d, hd, h⟩ := orBad_wp h
    obtain ⟨a, xs, rfl, na, ha, qa⟩ := dv_lst hx
    obtain ⟨v, hv, dv⟩ := dxa_atI qa hd
    exact Or.inl ⟨xs, _, v, rfl, .inl (SqL.of ha), hv, h _ H (Keep.refl H) t dv⟩
  | tup ds =>
    cases dy <;> first
      | exact False.elim h
      | skip
    cases hy
    obtain ⟨d, hd, h⟩ := orBad_wp h
    obtain ⟨a, xs, rfl, ea', ea, qa⟩ := dv_tup hx
    obtain ⟨v, hv, dv⟩ := dxa_atI qa hd
    exact Or.inl ⟨xs, _, v, rfl, .inr ea, hv, h _ H (Keep.refl H) t dv⟩
  | dct ks ds =>
    have h : (orBad (asKey dy) (fun x => orBad (dGet ks ds x) M.ok) s).wp (KQ K T C H Q) (KE K T E C H) := by cases dy <;> exact h
    obtain ⟨k, hk, h⟩ := orBad_wp h
    obtain ⟨d, hd, h⟩ := orBad_wp h
    cases hx with
    | dct e l q =>
      have z := dGet_val (x := k) l q
      rw [hd] at z
      obtain ⟨v, hv, dv⟩ := z
      rw [asKey_kV hy hk]
      refine Or.inr ⟨v, ?_, h _ H (Keep.refl H) t dv⟩
      rw [← hv]
      exact DGet.k (hide_get e).2
  | pen =>
    cases dy <;> first
      | exact False.elim h
      | skip
    cases hy
    exact pen_ix hx t h
  | _ => cases dy <;> exact False.elim h
def SO (to : TO) (m : En → M (Option Int)) : Prop := ∀ C σ H ρ s Q, Env K C H σ ρ → Stt T C H s → (m ρ s).wp (fun o s' => ∀ H', Keep C H H' → Stt T C H' s' → Q o H') (KE K T E C H) → to σ H Q
theorem so_none : SO (K := K) (T := T) (E := E) tNoPart fun _ => M.ok none := fun C σ H ρ s Q e t h => h H (Keep.refl H) t
def asI {α : Type} (f : Int → M α) : D → M α
  | .int b => f b
  | _ => fun _ => .bad
theorem asI_wp {α : Type} {f : Int → M α} {d : D} {s : PenS} {W : α → PenS → Prop} {F : Str → List Str → List D → PenS → Prop} (h : (asI f d s).wp W F) : ∃ b, d = .int b ∧ (f b s).wp W F := by
  cases d <;> first
    | exact ⟨_, rfl, h⟩
    | exact False.elim h
def dPart (a : En → M D) : En → M (Option Int) := fun ρ => M.bind (a ρ) (asI fun i => M.ok (some i))
theorem so_part {ta : TE} {a : En → M D} (ha : SE K T E ta a) : SO (K := K) (T := T) (E := E) (mPart ta) (dPart a) := fun C σ H ρ s Q e t h =>
  se_then ha e t h fun d s1 v H1 k1 t1 dv e1 h1 => by
    obtain ⟨i, rfl, h1⟩ := asI_wp h1
    cases dv
    exact h1 H1 k1 t1
def cutD (xs : List D) (lo hi : Option Int) : List D := (xs.drop (HT.sIx xs.length 0 lo)).take (HT.sIx xs.length xs.length hi - HT.sIx xs.length 0 lo)
theorem dxa_cut {p : Option Addr} {H : Hp} {vs : List V} {ds : List D} (h : DxA K p H vs ds) (lo hi : Option Int) : DxA K p H (cutV vs lo hi) (cutD ds lo hi) := by
  unfold cutV cutD
  rw [dxa_len h]
  exact dxa_take _ (dxa_drop _ h)
def slD (lo hi : Option Int) : D → M D
  | .str z => chk (decide (z.length ≤ sizeLine)) (M.ok (.str (cutS z lo hi)))
  | .lst ds => M.ok (.lst (cutD ds lo hi))
  | .tup ds => M.ok (.tup (cutD ds lo hi))
  | _ => fun _ => .bad
def dSl (a : En → M D) (l u : En → M (Option Int)) : En → M D := fun ρ => M.bind (a ρ) fun d => M.bind (l ρ) fun lo => M.bind (u ρ) fun hi => slD lo hi d
theorem cutD_all {ds : List D} {lo hi : Option Int} (h : HT.sIx ds.length 0 lo = 0 ∧ HT.sIx ds.length ds.length hi = ds.length) : cutD ds lo hi = ds := by
  unfold cutD
  rw [h.1, h.2]
  simp
theorem se_sl {ta : TE} {tl th : TO} {a : En → M D} {l u : En → M (Option Int)} (ha : SE K T E ta a) (hl : SO (K := K) (T := T) (E := E) tl l) (hu : SO (K := K) (T := T) (E := E) th u) : SE K T E (tSl (oSl K) ta tl th) (dSl a l u) := fun C σ H ρ s Q e t h =>
  se_then ha e t h fun d s1 v H1 k1 t1 dv e1 h1 => by
    refine hl C σ H1 ρ s1 _ e1 t1 (R.wp_mono (M.wp_bind h1) (fun lo s2 h2 H2 k2 t2 => ?_) fun _ _ _ _ h => ke_step k1 h)
    have k12 := k1.trans k2
    refine hu C σ H2 ρ s2 _ (e1.keep k2) t2 (R.wp_mono (M.wp_bind h2) (fun hi s3 h3 H3 k3 t3 => ?_) fun _ _ _ _ h => ke_step k12 h)
    have k13 := k12.trans k3
    have dv3 := (k2.trans k3).dv dv
    cases d with
    | str z =>
      cases dv3
      obtain ⟨hb, h3⟩ := chk_wp h3
      exact ⟨of_decide_eq_true hb, h3 _ H3 k13 t3 (.str _)⟩
    | lst ds =>
      obtain ⟨a, xs, rfl, na, ha, qa⟩ := dv_lst dv3
      refine ⟨xs, .inl ⟨SqL.of ha, fun p hp => ?_⟩⟩
      obtain ⟨k, t', _⟩ := new_obj (o := .lst (cutV xs lo hi)) t3 hp
      exact h3 _ _ (k13.trans k) t' (dv_new_lst t3 hp (dxa_cut qa lo hi))
    | tup ds =>
      obtain ⟨a, xs, rfl, ea', ea, qa⟩ := dv_tup dv3
      refine ⟨xs, .inr ⟨ea, fun z => ?_, fun _ p hp => ?_⟩⟩
      · rw [dxa_len qa] at z
        have h3 : (M.ok (D.tup (cutD ds lo hi)) s3).wp (KQ K T C H Q) (KE K T E C H) := h3
        rw [cutD_all z] at h3
        exact h3 _ H3 k13 t3 (.tup ea' qa)
      · obtain ⟨k, t', _⟩ := new_obj (o := .tup (cutV xs lo hi)) t3 hp
        exact h3 _ _ (k13.trans k) t' (dv_new_tup t3 hp (dxa_cut qa lo hi))
    | _ => exact False.elim h3
end
end GW

namespace GW
open PySem L2
section
variable {K : PySem.W.Frag} {T : List (Addr × Str)} {E : XK}
/-! ### statements -/
def dSeq (a b : En → M Out) : En → M Out := fun ρ => M.bind (a ρ) fun o => match o with
  | .nx ρ' => b ρ'
  | .rt d => M.ok (.rt d)
theorem ss_next : SS K T E tNext fun ρ => M.ok (.nx ρ) := fun C σ H ρ s N e t h => h H (Keep.refl H) t σ e
theorem ss_seq {ta tb : TS} {a b : En → M Out} (ha : SS K T E ta a) (hb : SS K T E tb b) : SS K T E (tSeq ta tb) (dSeq a b) := fun C σ H ρ s N e t h => by
  refine ha C σ H ρ s _ e t (R.wp_mono (M.wp_bind h) (fun o s1 h1 H1 k1 t1 => ?_) fun _ _ _ _ h => h)
  cases o with
  | nx ρ' => exact fun σ' e' => hb C σ' H1 ρ' s1 N e' t1 (ko_step k1 h1)
  | rt d => exact h1 H1 k1 t1
def dRet (a : En → M D) : En → M Out := fun ρ => M.bind (a ρ) fun d => M.ok (.rt d)
theorem ss_ret {ta : TE} {a : En → M D} (ha : SE K T E ta a) : SS K T E (tRet ta) (dRet a) := fun C σ H ρ s N e t h =>
  se_then ha e t h fun d s1 v H1 k1 t1 dv e1 h1 => h1 H1 k1 t1 v dv
theorem ss_retN : SS K T E tRetN fun _ => M.ok (.rt .non) := fun C σ H ρ s N e t h => h H (Keep.refl H) t .non .non
def dDrop (a : En → M D) : En → M Out := fun ρ => M.bind (a ρ) fun _ => M.ok (.nx ρ)
theorem ss_drop {ta : TE} {a : En → M D} (ha : SE K T E ta a) : SS K T E (tDrop ta) (dDrop a) := fun C σ H ρ s N e t h =>
  se_then ha e t h fun d s1 v H1 k1 t1 dv e1 h1 => h1 H1 k1 t1 σ e1
def dIfS (c : En → M Bool) (a b : En → M Out) : En → M Out := fun ρ => M.bind (c ρ) fun k => match k with
  | true => a ρ
  | false => b ρ
theorem ss_if {tc : TT} {ta tb : TS} {c : En → M Bool} {a b : En → M Out} (hc : ST K T E tc c) (ha : SS K T E ta a) (hb : SS K T E tb b) : SS K T E (tIfS tc ta tb) (dIfS c a b) := fun C σ H ρ s N e t h =>
  st_then hc e t h fun k s1 H1 k1 t1 e1 h1 => by
    cases k with
    | true => exact ha C σ H1 ρ s1 N e1 t1 (ko_step k1 h1)
    | false => exact hb C σ H1 ρ s1 N e1 t1 (ko_step k1 h1)
def dAsg (a : En → M D) (g : D → En → M En) : En → M Out := fun ρ => M.bind (a ρ) fun d => M.bind (g d ρ) fun ρ' => M.ok (.nx ρ')
theorem ss_asg {ta : TE} {tg : TG} {a : En → M D} {g : D → En → M En} {vs : List Nat} (ha : SE K T E ta a) (hg : SG K T E vs tg g) : SS K T E (tAsg ta tg) (dAsg a g) := fun C σ H ρ s N e t h =>
  se_then ha e t h fun d s1 v H1 k1 t1 dv e1 h1 =>
    hg C v d σ H1 ρ s1 _ dv e1 t1 (R.wp_mono (M.wp_bind h1) (fun ρ' s2 h2 σ' e2 _ es => by subst es; exact h2 H1 k1 t1 σ' e2) fun _ _ _ _ h => ke_step k1 h)
def dPar (i j : Nat) (a : En → M (List D)) : En → M Out := fun ρ => M.bind (a ρ) fun ds => match ds with
  | [x, y] => M.ok (.nx ((ρ.set i (some x)).set j (some y)))
  | _ => fun _ => .bad
theorem ss_par {i j : Nat} {ta : TA} {a : En → M (List D)} (ha : SA K T E ta a) : SS K T E (tPar i j ta) (dPar i j a) := fun C σ H ρ s N e t h =>
  sa_then ha e t h fun ds s1 vs H1 k1 t1 dv e1 h1 => by
    cases dv with
    | nil => exact False.elim h1
    | cons a1 r1 =>
      cases r1 with
      | nil => exact False.elim h1
      | cons a2 r2 =>
        cases r2 with
        | nil => exact ⟨_, _, rfl, h1 H1 k1 t1 _ ((e1.set a1 i).set a2 j)⟩
        | cons _ _ => exact False.elim h1
def dPar3 (i j l : Nat) (a : En → M (List D)) : En → M Out := fun ρ => M.bind (a ρ) fun ds => match ds with
  | [x, y, z] => M.ok (.nx (((ρ.set i (some x)).set j (some y)).set l (some z)))
  | _ => fun _ => .bad
theorem ss_par3 {i j l : Nat} {ta : TA} {a : En → M (List D)} (ha : SA K T E ta a) : SS K T E (tPar3 i j l ta) (dPar3 i j l a) := fun C σ H ρ s N e t h =>
  sa_then ha e t h fun ds s1 vs H1 k1 t1 dv e1 h1 => by
    cases dv with
    | nil => exact False.elim h1
    | cons a1 r1 =>
      cases r1 with
      | nil => exact False.elim h1
      | cons a2 r2 =>
        cases r2 with
        | nil => exact False.elim h1
        | cons a3 r3 =>
          cases r3 with
          | nil => exact ⟨_, _, _, rfl, h1 H1 k1 t1 _ (((e1.set a1 i).set a2 j).set a3 l)⟩
          | cons _ _ => exact False.elim h1
/-! ### targets -/
theorem wipe_set {σ : St} {i : Nat} {x : Option V} : ∀ {vs : List Nat}, i ∈ vs → wipe (σ.set i x) vs = wipe σ vs
  | [], h => by cases h
  | v :: vs, h => by
    unfold wipe
    by_cases e : i ∈ vs
    · rw [wipe_set e]
    · cases h with
      | head =>
        have c : ∀ (vs : List Nat) (σ : St), i ∉ vs → wipe (σ.set i x) vs = (wipe σ vs).set i x := by
          intro vs
          induction vs with
          | nil => intro σ _; rfl
          | cons w ws ih =>
            intro σ hn
            unfold wipe
            rw [ih σ (fun z => hn (List.mem_cons_of_mem _ z)), List.set_comm _ _ (fun z => hn (by rw [z]; exact List.mem_cons_self))]
        rw [c vs σ e, List.set_set]
      | tail _ h => exact absurd h e
def dName (i : Nat) : D → En → M En := fun d ρ => M.ok (ρ.set i (some d))
theorem sg_name {vs : List Nat} (i : Nat) (h : i ∈ vs) : SG K T E vs (gName i) (dName i) := fun C v d σ H ρ s Q dv e t q => q _ (e.set dv i) (wipe_set h) rfl
theorem sg_name1 (i : Nat) : SG K T E [i] (gName i) (dName i) := sg_name i List.mem_cons_self
def SGs (K : PySem.W.Frag) (T : List (Addr × Str)) (E : XK) (vs : List Nat) (g : TGs) (m : List D → En → M En) : Prop := ∀ C xs ds σ H ρ s Q, DvA K C H xs ds → Env K C H σ ρ → Stt T C H s → (m ds ρ s).wp (fun ρ' s' => ∀ σ', Env K C H σ' ρ' → wipe σ' vs = wipe σ vs → s' = s → Q σ' H) (KE K T E C H) → g xs σ H Q
def dGNil : List D → En → M En := fun ds ρ => match ds with
  | [] => M.ok ρ
  | _ => fun _ => .bad
def dGCons (g : D → En → M En) (r : List D → En → M En) : List D → En → M En := fun ds ρ => match ds with
  | d :: ds => M.bind (g d ρ) fun ρ' => r ds ρ'
  | _ => fun _ => .bad
theorem sgs_nil {vs : List Nat} : SGs K T E vs gNil dGNil := fun C xs ds σ H ρ s Q dv e t q => by
  cases dv with
  | nil => exact ⟨rfl, q _ e rfl rfl⟩
  | cons _ _ => exact False.elim q
theorem sgs_cons {vs : List Nat} {tg : TG} {tr : TGs} {g : D → En → M En} {r : List D → En → M En} (hg : SG K T E vs tg g) (hr : SGs K T E vs tr r) : SGs K T E vs (gCons tg tr) (dGCons g r) := fun C xs ds σ H ρ s Q dv e t q => by
  cases dv with
  | nil => exact False.elim q
  | @cons v d xs ds h1 h2 =>
    refine ⟨v, xs, rfl, hg C v d σ H ρ s _ h1 e t (R.wp_mono (M.wp_bind q) (fun ρ' s' q' σ' e' w es => ?_) fun _ _ _ _ h => h)⟩
    subst es
    exact hr C xs ds σ' H ρ' s' Q h2 e' t (R.wp_mono q' (fun ρ2 s2 q2 σ2 e2 w2 es2 => q2 σ2 e2 (w2.trans w) es2) fun _ _ _ _ h => h)
def dGTup (n : Nat) (r : List D → En → M En) : D → En → M En := fun d ρ => match d with
  | .tup ds => chk (decide (ds.length = n)) (r ds ρ)
  | _ => fun _ => .bad
theorem sg_tup {vs : List Nat} {n : Nat} {tr : TGs} {r : List D → En → M En} (hr : SGs K T E vs tr r) : SG K T E vs (gTup K n tr) (dGTup n r) := fun C v d σ H ρ s Q dv e t q => by
  cases d with
  | tup ds =>
    obtain ⟨hb, q⟩ := chk_wp q
    obtain ⟨a, xs, rfl, ea', ea, qa⟩ := dv_tup dv
    exact ⟨a, xs, rfl, ea, by rw [dxa_len qa]; exact of_decide_eq_true hb, hr C xs ds σ H ρ s Q qa e t q⟩
  | _ => exact False.elim q
/-! ### what is walked -/
/-- a place that hides more: what it hides more was not there at H1 -/
structure Cc.le (C C' : Cc) (H1 : Hp) : Prop where
  pen : C'.pen = C.pen
  own : C'.own = C.own
  sub : ∀ b ∈ C.hid, b ∈ C'.hid
  new : ∀ b ∈ C'.hid, b ∈ C.hid ∨ H1 b = none
/-- the items come as ds, whatever else is made meanwhile -/
def ItD (K : PySem.W.Frag) (T : List (Addr × Str)) (C : Cc) (H1 : Hp) (J : It) (ds : List D) : Prop := ∃ (G : Hp → Prop) (Y : Nat → Hp → V → Hp → Prop), Walk J ds.length G Y ∧
  ∀ C' : Cc, C.le C' H1 → (∀ H, Keep C' H1 H → G H) ∧ ∀ i H s x H', i < ds.length → Keep C' H1 H → Stt T C' H s → Y i H x H' → Keep C' H H' ∧ Stt T C' H' s ∧ ∃ d, ds[i]? = some d ∧ Dv K C' H' x d
def SI (K : PySem.W.Frag) (T : List (Addr × Str)) (E : XK) (it : TI) (m : En → M (List D)) : Prop := ∀ C σ H ρ s R, Env K C H σ ρ → Stt T C H s → (m ρ s).wp (fun ds s' => ∀ J H', Keep C H H' → Stt T C H' s' → ItD K T C H' J ds → R J H') (KE K T E C H) → it σ H R
theorem Cc.le.refl {C : Cc} {H : Hp} : C.le C H := ⟨rfl, rfl, fun _ h => h, fun _ h => .inl h⟩
theorem Cc.le.mem {C C' : Cc} {H1 : Hp} (l : C.le C' H1) {b : Addr} (h : b ∈ C.all) : b ∈ C'.all := by
  rcases List.mem_append.mp h with h | h
  · exact List.mem_append_left _ (by rw [l.own]; exact h)
  · exact List.mem_append_right _ (l.sub b h)
theorem Cc.le.mem' {C C' : Cc} {H1 : Hp} (l : C.le C' H1) {b : Addr} (h : b ∈ C'.all) : b ∈ C.all ∨ H1 b = none := by
  rcases List.mem_append.mp h with h | h
  · rw [l.own] at h
    exact .inl (List.mem_append_left _ h)
  · exact (l.new b h).imp_left (List.mem_append_right _)
theorem Cc.le.hide {C C' : Cc} {H1 : Hp} (l : C.le C' H1) : hide C.all H1 = hide C'.all H1 := by
  funext b
  unfold GW.hide
  by_cases h : b ∈ C.all
  · rw [if_pos h, if_pos (l.mem h)]
  · rw [if_neg h]
    by_cases h' : b ∈ C'.all
    · rw [if_pos h']
      exact (l.mem' h').resolve_left h
    · rw [if_neg h']
theorem Cc.le.dv {C C' : Cc} {H1 : Hp} (l : C.le C' H1) {v : V} {d : D} (h : Dv K C H1 v d) : Dv K C' H1 v d := by
  unfold Dv Cc.p at h ⊢
  rw [← l.hide, l.pen]
  exact h
theorem Cc.le.dvA {C C' : Cc} {H1 : Hp} (l : C.le C' H1) {v : List V} {d : List D} (h : DvA K C H1 v d) : DvA K C' H1 v d := by
  unfold DvA Cc.p at h ⊢
  rw [← l.hide, l.pen]
  exact h
theorem itd_list {C : Cc} {H1 : Hp} {a : Addr} {xs : List V} {ds : List D} (n : a ∉ C.all) (e : H1 a = some (.lst xs)) (h : DvA K C H1 xs ds) : ItD K T C H1 (Itl K a) ds := by
  refine ⟨fun H => SqL K H a xs, YAt xs, by rw [← dxa_len h]; exact walk_list, fun C' l => ⟨fun H k => SqL.of (k _ _ (by rw [l.own]; exact Cc.off n) (fun _ z => nomatch z) e), ?_⟩⟩
  · rintro i H s x H' hi k t ⟨rfl, hx⟩
    refine ⟨Keep.refl _, t, ?_⟩
    obtain ⟨v, hv, dv⟩ := dxa_at (i := i) (d := ds[i]) h (by simp [hi])
    rw [hx] at hv
    cases hv
    exact ⟨_, by simp [hi], k.dv (l.dv dv)⟩
theorem itd_tup {C : Cc} {H1 : Hp} {a : Addr} {xs : List V} {ds : List D} (e : SqT K (hide C.all H1) a xs) (h : DvA K C H1 xs ds) : ItD K T C H1 (Itt K a) ds := by
  refine ⟨fun H => SqT K H a xs, YAt xs, by rw [← dxa_len h]; exact walk_tup, fun C' l => ⟨fun H k => ?_, ?_⟩⟩
  · rw [l.hide] at e
    exact same_seqT hide_same (extn_sqT k.ext e)
  · rintro i H s x H' hi k t ⟨rfl, hx⟩
    refine ⟨Keep.refl _, t, ?_⟩
    obtain ⟨v, hv, dv⟩ := dxa_at (i := i) (d := ds[i]) h (by simp [hi])
    rw [hx] at hv
    cases hv
    exact ⟨_, by simp [hi], k.dv (l.dv dv)⟩
theorem itd_range {C : Cc} {H1 : Hp} {lo : Int} {n : Nat} : ItD K T C H1 (Itr lo n) ((List.range n).map fun i => .int (lo + (i : Nat))) := by
  refine ⟨fun _ => True, YFn fun i => .int (lo + i), by simpa using walk_range (lo := lo) (n := n), fun C' l => ⟨fun _ _ => trivial, ?_⟩⟩
  rintro i H s x H' hi k t ⟨rfl, rfl⟩
  have hi : i < n := by simpa using hi
  exact ⟨Keep.refl _, t, _, by simp [hi], .int _⟩
theorem itd_str {C : Cc} {H1 : Hp} {z : Str} : ItD K T C H1 (Its z) (z.cps.toList.map fun c => .str ⟨#[c]⟩) := by
  refine ⟨fun _ => True, fun i H v H' => H' = H ∧ ∃ c, z.cps[i]? = some c ∧ v = .str ⟨#[c]⟩, by simpa using walk_str (z := z), fun C' l => ⟨fun _ _ => trivial, ?_⟩⟩
  rintro i H s x H' hi k t ⟨rfl, c, hc, rfl⟩
  exact ⟨Keep.refl _, t, _, by simp [hc], .str _⟩
def itemsD : D → M (List D)
  | .lst ds => M.ok ds
  | .tup ds => M.ok ds
  | .str z => M.ok (z.cps.toList.map fun c => .str ⟨#[c]⟩)
  | _ => fun _ => .bad
def dIt (a : En → M D) : En → M (List D) := fun ρ => M.bind (a ρ) itemsD
def dRng1 (a : En → M (List D)) : En → M (List D) := fun ρ => M.bind (a ρ) fun ds => match ds with
  | [.int j] => chk (absLe 4611686018427387903 j) (M.ok ((List.range j.toNat).map fun i => .int (0 + (i : Nat))))
  | _ => fun _ => .bad
def dRng2 (a : En → M (List D)) : En → M (List D) := fun ρ => M.bind (a ρ) fun ds => match ds with
  | [.int i, .int j] => chk (absLe 4611686018427387903 i && absLe 4611686018427387903 j) (M.ok ((List.range (j - i).toNat).map fun k => .int (i + (k : Nat))))
  | _ => fun _ => .bad
theorem si_rng1 {ta : TA} {a : En → M (List D)} (ha : SA K T E ta a) : SI K T E (iRng1 ta) (dRng1 a) := fun C σ H ρ s R e t h =>
  sa_then ha e t h fun ds s1 vs H1 k1 t1 dv e1 h1 => by
    match ds, dv, h1 with
    | [.int j], .cons a1 .nil, h1 =>
      cases a1
      obtain ⟨hb, h1⟩ := chk_wp h1
      have hb := absLe_iff.mp hb
      exact ⟨j, rfl, by omega, by omega, h1 _ H1 k1 t1 itd_range⟩
theorem si_rng2 {ta : TA} {a : En → M (List D)} (ha : SA K T E ta a) : SI K T E (iRng2 ta) (dRng2 a) := fun C σ H ρ s R e t h =>
  sa_then ha e t h fun ds s1 vs H1 k1 t1 dv e1 h1 => by
    match ds, dv, h1 with
    | [.int i, .int j], .cons a1 (.cons a2 .nil), h1 =>
      cases a1; cases a2
      obtain ⟨hb, h1⟩ := chk_wp h1
      simp only [Bool.and_eq_true, absLe_iff] at hb
      exact ⟨i, j, rfl, ⟨by omega, by omega, by omega, by omega⟩, h1 _ H1 k1 t1 itd_range⟩
end
end GW

namespace GW
open PySem L2
section
variable {K : PySem.W.Frag} {T : List (Addr × Str)} {E : XK}
theorem Cc.le.keep {C C' : Cc} {H1 H2 H3 : Hp} (l : C.le C' H3) (k : Keep C' H1 H2) : Keep C H1 H2 := fun b o n t h => k b o (by rw [l.own]; exact n) t h
theorem Cc.le.keep' {C C' : Cc} {H1 H2 H3 : Hp} (l : C.le C' H3) (k : Keep C H1 H2) : Keep C' H1 H2 := fun b o n t h => k b o (by rw [← l.own]; exact n) t h
theorem Cc.le.up {C C' : Cc} {H H1 : Hp} (l : C.le C' H1) : Ext (GW.hide C'.all H) (GW.hide C.all H) := fun b o h _ => hide_at (fun z => (hide_get h).1 (l.mem z)) (hide_get h).2
theorem Cc.le.dvUp {C C' : Cc} {H H1 : Hp} (l : C.le C' H1) {v : V} {d : D} (h : Dv K C' H v d) : Dv K C H v d := by
  have z := dx_ext (l.up (H := H)) _ _ h
  unfold Cc.p at z
  rw [l.pen] at z
  exact z
theorem Cc.le.dvAUp {C C' : Cc} {H H1 : Hp} (l : C.le C' H1) {v : List V} {d : List D} (h : DvA K C' H v d) : DvA K C H v d := by
  have z := dxa_ext (l.up (H := H)) _ _ h
  unfold Cc.p at z
  rw [l.pen] at z
  exact z
theorem Cc.le.stt {C C' : Cc} {H H1 : Hp} {s : PenS} (l : C.le C' H1) (t : Stt T C' H s) (h1 : Stt T C H1 s') : Stt T C H s := by
  refine ⟨fun b hb => t.has b (l.mem hb), t.tabs, fun p c e => ?_⟩
  obtain ⟨z1, z2, z3, z4⟩ := t.pen p c (by rw [l.pen]; exact e)
  obtain ⟨y1, y2, _, _⟩ := h1.pen p c e
  exact ⟨y1, y2, z3, z4⟩
theorem ke_up {C C' : Cc} {H H1 H3 : Hp} {s' : PenS} (l : C.le C' H1) (h1 : Stt T C H1 s') (k : Keep C H H1) (k' : Keep C' H1 H3) {x : Str} {ns : List Str} {ds : List D} {s : PenS} (h : KE K T E C H x ns ds s) : KE K T E C' H3 x ns ds s :=
  fun vs dd H' k3 t e ln dv => h vs dd H' (k.trans (l.keep (k'.trans k3))) (l.stt t h1) e ln (l.dvAUp dv)
theorem env_up {C C' : Cc} {H1 : Hp} (l : C.le C' H1) : ∀ {σ : St} {ρ : En}, Env K C H1 σ ρ → Env K C' H1 σ ρ
  | _, _, .nil => .nil
  | _, _, .cons h t => .cons (fun d e => by
      obtain ⟨v, e1, h1⟩ := h d e
      exact ⟨v, e1, l.dv h1⟩) (env_up l t)
/-- one thing more is hidden: it is new -/
def Cc.plus (C : Cc) (a : Addr) : Cc := { C with hid := a :: C.hid }
theorem le_plus {C : Cc} {H : Hp} {a : Addr} (n : H a = none) : C.le (C.plus a) H := ⟨rfl, rfl, fun _ h => List.mem_cons_of_mem _ h, fun b h => by
  cases h with
  | head => exact .inr n
  | tail _ h => exact .inl h⟩
theorem mem_plus {C : Cc} {a b : Addr} (h : b ∈ (C.plus a).all) : b = a ∨ b ∈ C.all := by
  rcases List.mem_append.mp h with h | h
  · exact .inr (List.mem_append_left _ h)
  · cases h with
    | head => exact .inl rfl
    | tail _ h => exact .inr (List.mem_append_right _ h)
theorem plus_mem {C : Cc} {a : Addr} : a ∈ (C.plus a).all := List.mem_append_right _ List.mem_cons_self
theorem stt_plus {C : Cc} {H : Hp} {s : PenS} {a : Addr} {o : HO} (t : Stt T C H s) (n : H a = none) (nt : ∀ ps, o ≠ .tbl ps) : Stt T (C.plus a) (upd H a o) s := by
  have t' := t.same (same_new (o := o) n)
  refine ⟨fun b hb => ?_, t'.tabs, fun p c e => ?_⟩
  · rcases mem_plus hb with rfl | h
    · exact ⟨o, upd_same, nt⟩
    · exact t'.has b h
  · obtain ⟨z1, z2, z3, z4⟩ := t'.pen p c e
    refine ⟨z1, fun h => ?_, z3, z4⟩
    rcases mem_plus h with rfl | h
    · obtain ⟨_, _, _, w⟩ := t.pen p _ e
      rw [n] at w; cases w
    · exact z2 h
/-- a thing that no value shows is written -/
theorem stt_put {C : Cc} {H : Hp} {s : PenS} {a : Addr} {xs : List V} {o' : HO} (t : Stt T C H s) (m : a ∈ C.all) (e : H a = some (.lst xs)) (np : a ∉ C.own) (nt : ∀ ps, o' ≠ .tbl ps) : Stt T C (upd H a o') s := by
  refine ⟨fun b hb => ?_, fun p hp => ?_, fun p c h => ?_⟩
  · by_cases z : b = a
    · rw [z]; exact ⟨o', upd_same, nt⟩
    · rw [upd_ne z]; exact t.has b hb
  · obtain ⟨ps, h, ok, f⟩ := t.tabs p hp
    have n1 : p.1 ≠ a := fun z => by rw [z, e] at h; cases h
    refine ⟨ps, by rw [upd_ne n1]; exact h, ok, fun pos cv hc => ?_⟩
    obtain ⟨c, e1, e2⟩ := f pos cv hc
    have n2 : c ≠ a := fun z => by rw [z, e] at e2; cases e2
    exact ⟨c, e1, by rw [upd_ne n2]; exact e2⟩
  · obtain ⟨z1, z2, z3, z4⟩ := t.pen p c h
    exact ⟨z1, z2, by rw [upd_ne (fun z => np (by rw [← z]; exact z1))]; exact z3, by rw [upd_ne (fun z => z2 (by rw [z]; exact m))]; exact z4⟩
def wipeD (ρ : En) : List Nat → En
  | [] => ρ
  | v :: vs => (wipeD ρ vs).set v none
theorem env_wipe {C : Cc} {H : Hp} {σ : St} {ρ : En} (e : Env K C H σ ρ) : ∀ vs : List Nat, Env K C H (wipe σ vs) (wipeD ρ vs)
  | [] => e
  | v :: vs => (env_wipe e vs).unset v
/-! ### what is walked -/
theorem si_it {ta : TE} {a : En → M D} (ha : SE K T E ta a) : SI K T E (iU K ta) (dIt a) := fun C σ H ρ s R e t h => by
  have key : ∀ d s1, a ρ s = .ok d s1 → (iU K ta) σ H R := fun d s1 ea => by
    have h1 : (itemsD d s1).wp (fun ds s' => ∀ J H', Keep C H H' → Stt T C H' s' → ItD K T C H' J ds → R J H') (KE K T E C H) := by
      have h2 : ((M.bind (a ρ) itemsD) s).wp (fun ds s' => ∀ J H', Keep C H H' → Stt T C H' s' → ItD K T C H' J ds → R J H') (KE K T E C H) := h
      unfold M.bind at h2
      rw [ea] at h2
      exact h2
    have go : ∀ Q : VK, (∀ v H1, Keep C H H1 → Stt T C H1 s1 → Dv K C H1 v d → Q v H1) → ta σ H Q := fun Q q => ha C σ H ρ s Q e t (by rw [ea]; exact q)
    cases d with
    | lst ds =>
      refine .inl (go _ fun v H1 k1 t1 dv => ?_)
      obtain ⟨a, xs, rfl, na, ha, qa⟩ := dv_lst dv
      exact ⟨a, rfl, ⟨xs, SqL.of ha⟩, h1 _ H1 k1 t1 (itd_list na ha qa)⟩
    | tup ds =>
      refine .inr (.inl (go _ fun v H1 k1 t1 dv => ?_))
      obtain ⟨a, xs, rfl, ea', ea, qa⟩ := dv_tup dv
      exact ⟨a, rfl, ⟨xs, ea⟩, h1 _ H1 k1 t1 (itd_tup ea' qa)⟩
    | str z =>
      refine .inr (.inr (go _ fun v H1 k1 t1 dv => ?_))
      cases dv
      exact ⟨z, rfl, h1 _ H1 k1 t1 itd_str⟩
    | _ => exact False.elim h1
  cases ea : a ρ s with
  | ok d s1 => exact key d s1 ea
  | er x ns ds s1 =>
    have h2 : ((M.bind (a ρ) itemsD) s).wp (fun ds s' => ∀ J H', Keep C H H' → Stt T C H' s' → ItD K T C H' J ds → R J H') (KE K T E C H) := h
    unfold M.bind at h2
    rw [ea] at h2
    exact .inl (ha C σ H ρ s _ e t (by rw [ea]; exact h2))
  | bad =>
    have h2 : ((M.bind (a ρ) itemsD) s).wp (fun ds s' => ∀ J H', Keep C H H' → Stt T C H' s' → ItD K T C H' J ds → R J H') (KE K T E C H) := h
    unfold M.bind at h2
    rw [ea] at h2
    exact False.elim h2
theorem itd_pair {C : Cc} {H1 : Hp} {J : It} {G : Hp → Prop} {X Y : Nat → Option V} {ds : List D} (w : Walk J ds.length G (YPair X Y)) (hG : ∀ C' : Cc, C.le C' H1 → ∀ H, Keep C' H1 H → G H)
    (hd : ∀ i x y, i < ds.length → X i = some x → Y i = some y → ∃ a b, ds[i]? = some (.tup [a, b]) ∧ Dv K C H1 x a ∧ Dv K C H1 y b) : ItD K T C H1 J ds := by
  refine ⟨G, _, w, fun C' l => ⟨hG C' l, ?_⟩⟩
  rintro i H s x H' hi k t ⟨tt, u, v, rfl, nt, rfl, hu, hv⟩
  obtain ⟨a, b, e, da, db⟩ := hd i u v hi hu hv
  obtain ⟨k', t', z⟩ := new_obj (o := .tup [u, v]) t nt
  exact ⟨k', t', _, e, .tup (SqT.of z) (.cons (k'.dv (k.dv (l.dv da))) (.cons (k'.dv (k.dv (l.dv db))) .nil))⟩
def enumD : Nat → List D → List D
  | _, [] => []
  | i, d :: ds => .tup [.int (i : Int), d] :: enumD (i + 1) ds
theorem enumD_len : ∀ (i : Nat) (ds : List D), (enumD i ds).length = ds.length
  | _, [] => rfl
  | i, d :: ds => by simp [enumD, enumD_len]
theorem enumD_at : ∀ (i : Nat) (ds : List D) (j : Nat) (d : D), ds[j]? = some d → (enumD i ds)[j]? = some (.tup [.int ((i + j : Nat) : Int), d])
  | _, [], _, _, h => by cases h
  | i, d :: ds, 0, _, h => by cases h; rfl
  | i, d :: ds, j + 1, e, h => by
    have z := enumD_at (i + 1) ds j e h
    rw [show i + (j + 1) = i + 1 + j by omega]
    exact z
def dEnum (a : En → M (List D)) : En → M (List D) := fun ρ => M.bind (a ρ) fun ds => match ds with
  | [.lst xs] => M.ok (enumD 0 xs)
  | _ => fun _ => .bad
theorem si_enum {ta : TA} {a : En → M (List D)} (ha : SA K T E ta a) : SI K T E (iEnum K ta) (dEnum a) := fun C σ H ρ s R e t h =>
  sa_then ha e t h fun ds s1 vs H1 k1 t1 dv e1 h1 => by
    match ds, dv, h1 with
    | [.lst xs], .cons a1 .nil, h1 =>
      obtain ⟨a, us, rfl, na, ha, qa⟩ := dv_lst a1
      refine ⟨a, us, rfl, SqL.of ha, h1 _ H1 k1 t1 (itd_pair (by rw [enumD_len, ← dxa_len qa]; exact walk_enum) (fun C' l H k => SqL.of (k _ _ (by rw [l.own]; exact Cc.off na) (fun _ z => nomatch z) ha)) fun i x y hi hx hy => ?_)⟩
      rw [enumD_len] at hi
      obtain ⟨v, hv, dv⟩ := dxa_at (i := i) (d := xs[i]) qa (by simp [hi])
      cases hx
      have hy : us[i]? = some y := hy
      rw [hy] at hv
      cases hv
      exact ⟨.int ((0 + i : Nat) : Int), xs[i], enumD_at 0 xs i _ (by simp [hi]), (by rw [Nat.zero_add]; exact .int _), dv⟩
def zipD : List D → List D → List D
  | a :: as, b :: bs => .tup [a, b] :: zipD as bs
  | _, _ => []
theorem zipD_len : ∀ (a b : List D), (zipD a b).length = min a.length b.length
  | [], _ => by simp [zipD]
  | _ :: _, [] => by simp [zipD]
  | a :: as, b :: bs => by simp [zipD, zipD_len]
theorem zipD_at : ∀ (as bs : List D) (j : Nat) (a b : D), as[j]? = some a → bs[j]? = some b → (zipD as bs)[j]? = some (.tup [a, b])
  | [], _, _, _, _, h, _ => by cases h
  | _ :: _, [], _, _, _, _, h => by cases h
  | a :: as, b :: bs, 0, _, _, h, h' => by cases h; cases h'; rfl
  | a :: as, b :: bs, j + 1, _, _, h, h' => zipD_at as bs j _ _ h h'
def dZip (a : En → M (List D)) : En → M (List D) := fun ρ => M.bind (a ρ) fun ds => match ds with
  | [.lst xs, .lst ys] => M.ok (zipD xs ys)
  | [.tup xs, .tup ys] => M.ok (zipD xs ys)
  | _ => fun _ => .bad
theorem walk_zipT {K : PySem.W.Frag} {a b : Addr} {xs ys : List V} {n : Nat} (hn : n = min xs.length ys.length) : Walk (RZ.ItzT K a b) n (fun H => SqT K H a xs ∧ SqT K H b ys) (YPair (fun i => xs[i]?) (fun i => ys[i]?)) := by
  subst hn
  refine ⟨fun i _ hi q => ?_, fun _ q => ⟨xs, ys, q.1, q.2, by omega⟩, fun i H v H' _ q y => ?_⟩
  · have h1 : i < xs.length := by omega
    have h2 : i < ys.length := by omega
    exact ⟨xs, ys, xs[i], ys[i], q.1, q.2, by simp [h1], by simp [h2]⟩
  · obtain ⟨T, x, z, h1, h2, h3, h4, h5⟩ := y
    exact ⟨T, x, z, h1, h2, h3, h4 xs q.1, h5 ys q.2⟩
theorem zip_item {C : Cc} {H1 : Hp} {us ws : List V} {xs ys : List D} (qa : DvA K C H1 us xs) (qb : DvA K C H1 ws ys) : ∀ i x y, i < (zipD xs ys).length → us[i]? = some x → ws[i]? = some y → ∃ a b, (zipD xs ys)[i]? = some (.tup [a, b]) ∧ Dv K C H1 x a ∧ Dv K C H1 y b := by
  intro i x y hi hx hy
  rw [zipD_len] at hi
  obtain ⟨v, hv, dv⟩ := dxa_at (i := i) (d := xs[i]'(by omega)) qa (by simp)
  obtain ⟨w, hw, dw⟩ := dxa_at (i := i) (d := ys[i]'(by omega)) qb (by simp)
  rw [hx] at hv
  rw [hy] at hw
  cases hv
  cases hw
  exact ⟨_, _, zipD_at _ _ i _ _ (by simp) (by simp), dv, dw⟩
theorem si_zip {ta : TA} {a : En → M (List D)} (ha : SA K T E ta a) : SI K T E (RZ.iZipA K ta) (dZip a) := fun C σ H ρ s R e t h =>
  sa_then ha e t h fun ds s1 vs H1 k1 t1 dv e1 h1 => by
    match ds, dv, h1 with
    | [.lst xs, .lst ys], .cons a1 (.cons a2 .nil), h1 =>
      obtain ⟨a, us, rfl, na, ha, qa⟩ := dv_lst a1
      obtain ⟨b, ws, rfl, nb, hb, qb⟩ := dv_lst a2
      refine ⟨a, b, us, ws, rfl, .inl ⟨SqL.of ha, SqL.of hb, h1 _ H1 k1 t1 (itd_pair (walk_zip (n := (zipD xs ys).length) (by rw [zipD_len, dxa_len qa, dxa_len qb])) (fun C' l H k => ⟨SqL.of (k _ _ (by rw [l.own]; exact Cc.off na) (fun _ z => nomatch z) ha), SqL.of (k _ _ (by rw [l.own]; exact Cc.off nb) (fun _ z => nomatch z) hb)⟩) (zip_item qa qb))⟩⟩
    | [.tup xs, .tup ys], .cons a1 (.cons a2 .nil), h1 =>
      obtain ⟨a, us, rfl, ea', ea, qa⟩ := dv_tup a1
      obtain ⟨b, ws, rfl, eb', eb, qb⟩ := dv_tup a2
      refine ⟨a, b, us, ws, rfl, .inr ⟨ea, eb, h1 _ H1 k1 t1 (itd_pair (walk_zipT (n := (zipD xs ys).length) (by rw [zipD_len, dxa_len qa, dxa_len qb])) (fun C' l H k => ?_) (zip_item qa qb))⟩⟩
      rw [l.hide] at ea' eb'
      exact ⟨same_seqT hide_same (extn_sqT k.ext ea'), same_seqT hide_same (extn_sqT k.ext eb')⟩
end
end GW

namespace GW
open PySem L2
section
variable {K : PySem.W.Frag} {T : List (Addr × Str)} {E : XK}
/-! ### comprehensions and loops -/
def lcGo (g : D → En → M En) (tt : En → M Bool) (te : En → M D) (ρ : En) : List D → M (List D)
  | [] => M.ok []
  | d :: ds => M.bind (g d ρ) fun ρ1 => M.bind (tt ρ1) fun b => match b with
    | true => M.bind (te ρ1) fun y => M.bind (lcGo g tt te ρ ds) fun ys => M.ok (y :: ys)
    | false => lcGo g tt te ρ ds
def dLc (it : En → M (List D)) (g : D → En → M En) (tt : En → M Bool) (te : En → M D) (vs : List Nat) : En → M D := fun ρ => M.bind (it ρ) fun ds => chk (decide (ds.length ≤ sizeLine)) (M.bind (lcGo g tt te (wipeD ρ vs) ds) fun ys => M.ok (.lst ys))
theorem bind_ok {α β : Type} {m : M α} {f : α → M β} {s s' : PenS} {a : α} (h : m s = .ok a s') : M.bind m f s = f a s' := by unfold M.bind; rw [h]
theorem hide_put {C : Cc} {H : Hp} {a : Addr} {o : HO} (m : a ∈ C.all) : hide C.all (upd H a o) = hide C.all H := by
  funext b
  unfold hide
  by_cases h : b ∈ C.all
  · rw [if_pos h, if_pos h]
  · rw [if_neg h, if_neg h, upd_ne (fun z => h (by rw [z]; exact m))]
theorem put_dv {C : Cc} {H : Hp} {a : Addr} {o : HO} (m : a ∈ C.all) {v : V} {d : D} (h : Dv K C H v d) : Dv K C (upd H a o) v d := by
  unfold Dv
  rw [hide_put m]
  exact h
theorem put_dvA {C : Cc} {H : Hp} {a : Addr} {o : HO} (m : a ∈ C.all) {v : List V} {d : List D} (h : DvA K C H v d) : DvA K C (upd H a o) v d := by
  unfold DvA
  rw [hide_put m]
  exact h
theorem keep_put {C : Cc} {H1 H : Hp} {a : Addr} {o : HO} (n : H1 a = none) (k : Keep C H1 H) : Keep C H1 (upd H a o) := fun b u nb t h => by
  rw [upd_ne (fun z => by rw [z, n] at h; cases h)]
  exact k b u nb t h
theorem wipe_wipe (σ : St) (vs : List Nat) : wipe (wipe σ vs) vs = wipe σ vs := by
  have key : ∀ (ws vs : List Nat) (σ : St), (∀ w ∈ ws, w ∈ vs) → wipe (wipe σ ws) vs = wipe σ vs := by
    intro ws
    induction ws with
    | nil => intro vs σ _; rfl
    | cons w ws ih =>
      intro vs σ h
      show wipe ((wipe σ ws).set w none) vs = wipe σ vs
      rw [wipe_set (h w List.mem_cons_self), ih vs σ fun x hx => h x (List.mem_cons_of_mem _ hx)]
  exact key vs vs σ fun _ h => h
theorem se_lc {wi : TI} {tg : TG} {tt : TT} {te : TE} {it : En → M (List D)} {g : D → En → M En} {mt : En → M Bool} {me : En → M D} {vs : List Nat} (hi : SI K T E wi it) (hg : SG K T E vs tg g) (ht : ST K T E tt mt) (he : SE K T E te me) :
    SE K T E (tLc wi tg tt te vs) (dLc it g mt me vs) := fun C σ H ρ s Q e t h => by
  refine hi C σ H ρ s _ e t (R.wp_mono (M.wp_bind h) (fun ds s1 h1 J H1 k1 t1 itd => ?_) fun _ _ _ _ h => h)
  obtain ⟨hb, h1⟩ := chk_wp h1
  have hb : ds.length ≤ sizeLine := of_decide_eq_true hb
  obtain ⟨G, Y, w, itd⟩ := itd
  intro D hD
  have l := le_plus (C := C) hD
  have nD := t1.off hD
  have nO : D ∉ (C.plus D).own := Cc.off (C := C) nD
  obtain ⟨hG, hY⟩ := itd (C.plus D) l
  refine lc_it w (fun i H2 => ∃ acc ys s2, H2 D = some (.lst acc) ∧ acc.length ≤ i ∧ DvA K (C.plus D) H2 acc ys ∧ Keep (C.plus D) H1 H2 ∧ Stt T (C.plus D) H2 s2 ∧
    (lcGo g mt me (wipeD ρ vs) (ds.drop i) s2).wp (fun zs s3 => KQ K T C H Q (.lst (ys ++ zs)) s3) (KE K T E C H)) ?_ (fun i H2 _ ⟨_, _, _, _, _, _, k, _⟩ => hG H2 k) ?_ ?_
  · exact ⟨[], [], s1, upd_same, Nat.le_refl _, .nil, same_keep (same_new hD), stt_plus t1 hD (fun _ z => nomatch z), R.wp_mono (M.wp_bind h1) (fun _ _ h => h) fun _ _ _ _ h => h⟩
  · rintro i x H2 H3 hi2 ⟨acc, ys, s2, eD, el, da, k2, t2, hl⟩ y
    obtain ⟨k3, t3, d, hd, dv⟩ := hY i H2 s2 x H3 hi2 k2 t2 y
    have k13 := k2.trans k3
    have ed : ds.drop i = d :: ds.drop (i + 1) := by
      rw [List.drop_eq_getElem_cons hi2]
      congr 1
      rw [List.getElem?_eq_getElem hi2] at hd
      exact Option.some.inj hd
    rw [ed] at hl
    have e3 : Env K (C.plus D) H3 (wipe σ vs) (wipeD ρ vs) := (env_wipe (env_up l (e.keep k1)) vs).keep k13
    have up : ∀ {H' : Hp}, Keep (C.plus D) H1 H' → ∀ x ns dd s, KE K T E C H x ns dd s → KE K T E (C.plus D) H' x ns dd s := fun k' x ns dd s h => ke_up l t1 k1 k' h
    refine hg (C.plus D) x d (wipe σ vs) H3 (wipeD ρ vs) s2 _ dv e3 t3 (R.wp_mono (M.wp_bind hl) (fun ρ1 s' h2 σ2 e4 wp es => ⟨wp.trans ?_, ?_⟩) (up k13))
    · exact wipe_wipe σ vs
    subst es
    refine ht (C.plus D) σ2 H3 ρ1 s' _ e4 t3 (R.wp_mono (M.wp_bind h2) (fun b s4 h3 H4 k4 t4 => ?_) (up k13))
    have k14 := k13.trans k4
    cases b with
    | false =>
      rw [if_neg (by decide)]
      exact ⟨acc, ys, s4, (k3.trans k4) D (.lst acc) nO (fun _ z => nomatch z) eD, by omega, (k3.trans k4).dvA da, k14, t4, h3⟩
    | true =>
      rw [if_pos rfl]
      refine he (C.plus D) σ2 H4 ρ1 s4 _ (e4.keep k4) t4 (R.wp_mono (M.wp_bind h3) (fun yd s5 h4 yv H5 k5 t5 dy => ?_) (up k14))
      have k25 := (k3.trans k4).trans k5
      have eD5 := k25 D (.lst acc) nO (fun _ z => nomatch z) eD
      refine ⟨acc, eD5, by omega, acc ++ [yv], ys ++ [yd], s5, upd_same, by simp; omega, put_dvA plus_mem (dxa_app (k25.dvA da) (.cons dy .nil)), keep_put hD (k2.trans k25), stt_put t5 plus_mem eD5 nO (fun _ z => nomatch z), ?_⟩
      refine R.wp_mono (M.wp_bind h4) (fun zs s6 h5 => ?_) fun _ _ _ _ h => h
      have z : KQ K T C H Q (.lst (ys ++ yd :: zs)) s6 := h5
      rw [List.append_assoc]
      exact z
  · rintro H2 ⟨acc, ys, s2, eD, el, da, k2, t2, hl⟩
    rw [List.drop_length] at hl
    have z : KQ K T C H Q (.lst (ys ++ [])) s2 := hl
    rw [List.append_nil] at z
    exact z (.ref D) H2 (k1.trans (l.keep k2)) (l.stt t2 t1) (.lst (hide_at nD eD) (l.dvAUp da))
def forGo (g : D → En → M En) (b : En → M Out) : List D → En → M Out
  | [], ρ => M.ok (.nx ρ)
  | d :: ds, ρ => M.bind (g d ρ) fun ρ1 => M.bind (b ρ1) fun o => match o with
    | .nx ρ2 => forGo g b ds ρ2
    | .rt d => M.ok (.rt d)
def dFor (it : En → M (List D)) (g : D → En → M En) (b : En → M Out) : En → M Out := fun ρ => M.bind (it ρ) fun ds => forGo g b ds ρ
theorem ss_for {wi : TI} {tg : TG} {tb : TS} {it : En → M (List D)} {g : D → En → M En} {b : En → M Out} {vs : List Nat} (hi : SI K T E wi it) (hg : SG K T E vs tg g) (hb : SS K T E tb b) :
    SS K T E (tFor wi tg tb) (dFor it g b) := fun C σ H ρ s N e t h => by
  refine hi C σ H ρ s _ e t (R.wp_mono (M.wp_bind h) (fun ds s1 h1 J H1 k1 t1 itd => ?_) fun _ _ _ _ h => h)
  obtain ⟨G, Y, w, itd⟩ := itd
  obtain ⟨hG, hY⟩ := itd C Cc.le.refl
  refine for_it w (fun i σ' H2 => ∃ ρ' s2, Keep C H1 H2 ∧ Stt T C H2 s2 ∧ Env K C H2 σ' ρ' ∧ (forGo g b (ds.drop i) ρ' s2).wp (OK K T C H N) (KE K T E C H)) ⟨ρ, s1, Keep.refl _, t1, e.keep k1, h1⟩ (fun i σ' H2 _ ⟨_, _, k, _⟩ => hG H2 k) ?_ ?_
  · rintro i x σ' H2 H3 hi2 ⟨ρ', s2, k2, t2, e2, hl⟩ y
    obtain ⟨k3, t3, d, hd, dv⟩ := hY i H2 s2 x H3 hi2 k2 t2 y
    have ed : ds.drop i = d :: ds.drop (i + 1) := by
      rw [List.drop_eq_getElem_cons hi2]
      congr 1
      rw [List.getElem?_eq_getElem hi2] at hd
      exact Option.some.inj hd
    rw [ed] at hl
    have k03 := (k1.trans k2).trans k3
    refine hg C x d σ' H3 ρ' s2 _ dv (e2.keep k3) t3 (R.wp_mono (M.wp_bind hl) (fun ρ1 s' h2 σ2 e4 _ es => ?_) fun _ _ _ _ h => ke_step k03 h)
    subst es
    refine hb C σ2 H3 ρ1 s' _ e4 t3 (R.wp_mono (M.wp_bind h2) (fun o s4 h3 H4 k4 t4 => ?_) fun _ _ _ _ h => ke_step k03 h)
    cases o with
    | nx ρ2 => exact fun σ3 e5 => ⟨ρ2, s4, (k2.trans k3).trans k4, t4, e5, h3⟩
    | rt d => exact h3 H4 (k03.trans k4) t4
  · rintro σ' H2 ⟨ρ', s2, k2, t2, e2, hl⟩
    rw [List.drop_length] at hl
    exact hl H2 (k1.trans k2) t2 σ' e2
def whGo (c : En → M Bool) (b : En → M Out) : Nat → En → M Out
  | 0, _ => fun _ => .bad
  | n + 1, ρ => M.bind (c ρ) fun k => match k with
    | true => M.bind (b ρ) fun o => match o with
      | .nx ρ2 => whGo c b n ρ2
      | .rt d => M.ok (.rt d)
    | false => M.ok (.nx ρ)
theorem ss_while {tc : TT} {tb : TS} {c : En → M Bool} {b : En → M Out} (n : Nat) (hc : ST K T E tc c) (hb : SS K T E tb b) : SS K T E (tWhile tc tb) (whGo c b n) := fun C σ H ρ s N e t h => by
  refine ⟨fun m σ' H2 => ∃ ρ' s2, Keep C H H2 ∧ Stt T C H2 s2 ∧ Env K C H2 σ' ρ' ∧ (whGo c b m ρ' s2).wp (OK K T C H N) (KE K T E C H), ⟨n, ρ, s, Keep.refl _, t, e, h⟩, ?_⟩
  rintro m σ' H2 ⟨ρ', s2, k2, t2, e2, hl⟩
  cases m with
  | zero => exact False.elim hl
  | succ m =>
    refine hc C σ' H2 ρ' s2 _ e2 t2 (R.wp_mono (M.wp_bind hl) (fun k s3 h3 H3 k3 t3 => ?_) fun _ _ _ _ h => ke_step k2 h)
    have k03 := k2.trans k3
    have e3 := e2.keep k3
    cases k with
    | false =>
      rw [if_neg (by decide)]
      exact h3 H3 k03 t3 σ' e3
    | true =>
      rw [if_pos rfl]
      refine ⟨fun σ4 H4 => ∃ ρ4 s4, Keep C H H4 ∧ Stt T C H4 s4 ∧ Env K C H4 σ4 ρ4 ∧ (whGo c b m ρ4 s4).wp (OK K T C H N) (KE K T E C H), fun σ4 H4 z => ⟨m, Nat.lt_succ_self m, z⟩, ?_⟩
      refine hb C σ' H3 ρ' s3 _ e3 t3 (R.wp_mono (M.wp_bind h3) (fun o s4 h4 H4 k4 t4 => ?_) fun x ns ds s h => ke_step k03 h)
      cases o with
      | nx ρ2 => exact fun σ5 e5 => ⟨ρ2, s4, k03.trans k4, t4, e5, h4⟩
      | rt d => exact h4 H4 (k03.trans k4) t4
/-! ### calls -/
def spM (K : PySem.W.Frag) (T : List (Addr × Str)) (f : List D → M D) : Sp := fun vs H Q E => ∃ C ds s, Stt T C H s ∧ DvA K C H vs ds ∧ (f ds s).wp (KQ K T C H Q) (KE K T E C H)
/-- no error comes out -/
def noEr {α : Type} (m : M α) : M α := fun s => match m s with
  | .ok a s' => .ok a s'
  | _ => .bad
theorem noEr_wp {α : Type} {m : M α} {s : PenS} {Q : α → PenS → Prop} {F F' : Str → List Str → List D → PenS → Prop} (h : (noEr m s).wp Q F) : (m s).wp Q F' := by
  unfold noEr at h
  cases e : m s with
  | ok a s' => rw [e] at h; exact h
  | er _ _ _ _ => rw [e] at h; exact False.elim h
  | bad => rw [e] at h; exact False.elim h
theorem noEr_ok {α : Type} {m : M α} {s s' : PenS} {a : α} (h : m s = .ok a s') : noEr m s = .ok a s' := by unfold noEr; rw [h]
def spP (K : PySem.W.Frag) (T : List (Addr × Str)) (f : List D → M D) : Sp := spM K T fun ds => noEr (f ds)
def dCall (f : List D → M D) (a : En → M (List D)) : En → M D := fun ρ => M.bind (a ρ) f
def dCallP (f : List D → M D) (a : En → M (List D)) : En → M D := fun ρ => M.bind (a ρ) fun ds => noEr (f ds)
theorem se_call {f : List D → M D} {ta : TA} {a : En → M (List D)} (ha : SA K T E ta a) : SE K T E (tCall (spM K T f) [] E ta) (dCall f a) := fun C σ H ρ s Q e t h =>
  sa_then ha e t h fun ds s1 vs H1 k1 t1 dv e1 h1 => by
    rw [List.append_nil]
    exact ⟨C, ds, s1, t1, dv, kq_step k1 h1⟩
theorem se_callP {f : List D → M D} {E' : XK} {ta : TA} {a : En → M (List D)} (ha : SA K T E ta a) : SE K T E (tCall (spP K T f) [] E' ta) (dCallP f a) := fun C σ H ρ s Q e t h =>
  sa_then ha e t h fun ds s1 vs H1 k1 t1 dv e1 h1 => by
    rw [List.append_nil]
    refine ⟨C, ds, s1, t1, dv, ?_⟩
    have z : (noEr (f ds) s1).wp (KQ K T C H1 Q) (KE K T E C H1) := kq_step k1 h1
    have z2 : (f ds s1).wp (KQ K T C H1 Q) (fun _ _ _ _ => False) := noEr_wp z
    cases e : f ds s1 with
    | ok d s2 => rw [e] at z2; show ((noEr (f ds)) s1).wp _ _; rw [noEr_ok e]; exact z2
    | er _ _ _ _ => rw [e] at z2; exact False.elim z2
    | bad => rw [e] at z2; exact False.elim z2
/-- a raising def, called where no error may come out -/
theorem se_callN {f : List D → M D} {E' : XK} {ta : TA} {a : En → M (List D)} (ha : SA K T E ta a) : SE K T E (tCall (spM K T f) [] E' ta) (dCallP f a) := fun C σ H ρ s Q e t h =>
  sa_then ha e t h fun ds s1 vs H1 k1 t1 dv e1 h1 => by
    rw [List.append_nil]
    exact ⟨C, ds, s1, t1, dv, noEr_wp (kq_step k1 h1)⟩
def permD (perm : List Nat) (ds : List D) : List D := perm.map fun i => ds.getD i .non
theorem dxa_getD {p : Option Addr} {H : Hp} : ∀ {vs : List V} {ds : List D} (i : Nat), DxA K p H vs ds → Dx K p H (vs.getD i .non) (ds.getD i .non)
  | _, _, _, .nil => by simp; exact .non
  | _, _, 0, .cons a _ => a
  | _, _, i + 1, .cons _ b => by simpa using dxa_getD i b
theorem dxa_perm {p : Option Addr} {H : Hp} {vs : List V} {ds : List D} (h : DxA K p H vs ds) : ∀ perm : List Nat, DxA K p H (prm .non perm vs) (permD perm ds)
  | [] => .nil
  | i :: r => .cons (dxa_getD i h) (dxa_perm h r)
def dPerm (perm : List Nat) (a : En → M (List D)) : En → M (List D) := fun ρ => M.bind (a ρ) fun ds => chk (decide (ds.length = perm.length)) (M.ok (permD perm ds))
theorem callK_of {sp : Sp} {perm : List Nat} {E' : XK} {ta : TA} {σ : St} {H : Hp} {Q : VK} (h : tCall sp [] E' (fun σ H Q => ta σ H fun zs H1 => zs.length = perm.length ∧ Q (prm .non perm zs) H1) σ H Q) : tCallP perm sp E' ta σ H Q := by
  unfold tCall at h
  unfold tCallP
  have e : (fun (zs : List V) (H1 : Hp) => zs.length = perm.length ∧ sp (prm .non perm zs ++ []) H1 Q E') = fun zs H1 => zs.length = perm.length ∧ sp (prm .non perm zs) H1 Q E' := by
    funext zs H1
    rw [List.append_nil]
  rw [← e]
  exact h
theorem sa_perm {perm : List Nat} {ta : TA} {a : En → M (List D)} (ha : SA K T E ta a) : SA K T E (fun σ H Q => ta σ H fun zs H1 => zs.length = perm.length ∧ Q (prm .non perm zs) H1) (dPerm perm a) := fun C σ H ρ s Q e t h =>
  sa_then ha e t h fun ds s1 vs H1 k1 t1 dv e1 h1 => by
    obtain ⟨hb, h1⟩ := chk_wp h1
    exact ⟨by rw [dxa_len dv]; exact of_decide_eq_true hb, h1 _ H1 k1 t1 (dxa_perm dv perm)⟩
theorem se_callK {f : List D → M D} {perm : List Nat} {ta : TA} {a : En → M (List D)} (ha : SA K T E ta a) : SE K T E (tCallP perm (spM K T f) E ta) (dCall f (dPerm perm a)) := fun C σ H ρ s Q e t h => callK_of (se_call (sa_perm ha) C σ H ρ s Q e t h)
theorem se_callKP {f : List D → M D} {perm : List Nat} {E' : XK} {ta : TA} {a : En → M (List D)} (ha : SA K T E ta a) : SE K T E (tCallP perm (spP K T f) E' ta) (dCallP f (dPerm perm a)) := fun C σ H ρ s Q e t h => callK_of (se_callP (sa_perm ha) C σ H ρ s Q e t h)
theorem se_callKN {f : List D → M D} {perm : List Nat} {E' : XK} {ta : TA} {a : En → M (List D)} (ha : SA K T E ta a) : SE K T E (tCallP perm (spM K T f) E' ta) (dCallP f (dPerm perm a)) := fun C σ H ρ s Q e t h => callK_of (se_callN (sa_perm ha) C σ H ρ s Q e t h)
/-! ### a def's body -/
def startD (n : Nat) (ds : List D) : En := ds.map some ++ List.replicate (n - ds.length) none
theorem env_none {C : Cc} {H : Hp} : ∀ n, Env K C H (List.replicate n none) (List.replicate n none)
  | 0 => .nil
  | n + 1 => .cons (fun d e => by cases e) (env_none n)
theorem env_some {C : Cc} {H : Hp} (n : Nat) : ∀ {vs : List V} {ds : List D}, DvA K C H vs ds → Env K C H (vs.map some ++ List.replicate n none) (ds.map some ++ List.replicate n none)
  | _, _, .nil => env_none n
  | _, _, .cons a b => .cons (fun d e => by cases e; exact ⟨_, rfl, a⟩) (env_some n b)
theorem env_start {C : Cc} {H : Hp} {vs : List V} {ds : List D} (N : List Str) (h : DvA K C H vs ds) : Env K C H (L2.start N vs) (startD N.length ds) := by
  unfold L2.start startD
  rw [dxa_len h]
  exact env_some _ h
def outD : Out → D
  | .nx _ => .non
  | .rt d => d
def bodyD (n : Nat) (b : En → M Out) : List D → M D := fun ds => M.bind (b (startD n ds)) fun o => M.ok (outD o)
theorem body_ok {N : List Str} {t : TS} {b : En → M Out} (hb : SS K T E t b) {C : Cc} {vs : List V} {ds : List D} {H : Hp} {s : PenS} {Q : VK} (st : Stt T C H s) (dv : DvA K C H vs ds) (h : (bodyD N.length b ds s).wp (KQ K T C H Q) (KE K T E C H)) :
    t { nx := fun _ H' => Q .non H', rt := Q } (L2.start N vs) H :=
  hb C (L2.start N vs) H _ s _ (env_start N dv) st (R.wp_mono (M.wp_bind h) (fun o s1 h1 H1 k1 t1 => by
    cases o with
    | nx ρ => exact fun σ' _ => h1 .non H1 k1 t1 .non
    | rt d => exact fun v dv => h1 v H1 k1 t1 dv) fun _ _ _ _ h => h)
theorem pu_M {N : List Str} {t : TS} {b : En → M Out} (hb : SS K T E t b) : ∀ vs H Q, spM K T (bodyD N.length b) vs H Q E → t { nx := fun _ H' => Q .non H', rt := Q } (L2.start N vs) H := by
  rintro vs H Q ⟨C, ds, s, st, dv, h⟩
  exact body_ok hb st dv h
theorem pu_P {N : List Str} {t : TS} {b : En → M Out} {E' : XK} (hb : SS K T E0 t b) : ∀ vs H Q, spP K T (bodyD N.length b) vs H Q E' → t { nx := fun _ H' => Q .non H', rt := Q } (L2.start N vs) H := by
  rintro vs H Q ⟨C, ds, s, st, dv, h⟩
  exact body_ok hb st dv (noEr_wp h)
end
end GW

namespace GW
open PySem L2
section
variable {K : PySem.W.Frag} {T : List (Addr × Str)} {E : XK}
/-! ### built-ins -/
def SB (K : PySem.W.Frag) (T : List (Addr × Str)) (E : XK) (r : List V → Hp → VK → Prop) (f : List D → M D) : Prop := ∀ C vs ds H s (Q : VK), DvA K C H vs ds → Stt T C H s → (f ds s).wp (KQ K T C H Q) (KE K T E C H) → r vs H Q
theorem se_cb {r : List V → Hp → VK → Prop} {f : List D → M D} {ta : TA} {a : En → M (List D)} (hr : SB K T E r f) (ha : SA K T E ta a) : SE K T E (tCB r ta) (dCall f a) := fun C σ H ρ s Q e t h =>
  sa_then ha e t h fun ds s1 vs H1 k1 t1 dv e1 h1 => hr C vs ds H1 s1 Q dv t1 (kq_step k1 h1)
def bOne (f : D → M D) : List D → M D
  | [d] => f d
  | _ => fun _ => .bad
theorem sb_one {r : List V → Hp → VK → Prop} {f : D → M D} (h : ∀ C v d H s (Q : VK), Dv K C H v d → Stt T C H s → (f d s).wp (KQ K T C H Q) (KE K T E C H) → r [v] H Q) : SB K T E r (bOne f) := fun C vs ds H s Q dv t q => by
  cases dv with
  | nil => exact False.elim q
  | cons a b =>
    cases b with
    | nil => exact h C _ _ H s Q a t q
    | cons _ _ => exact False.elim q
def lenD : D → M D
  | .str z => chk (decide (z.length ≤ sizeLine)) (M.ok (.int z.length))
  | .lst ds => M.ok (.int (ds.length : Nat))
  | .tup ds => M.ok (.int (ds.length : Nat))
  | .dct ks _ => M.ok (.int (ks.length : Nat))
  | _ => fun _ => .bad
theorem sb_len : SB K T E (rLenU K) (bOne lenD) := sb_one fun C v d H s Q dv t h => by
  cases d with
  | str z =>
    cases dv
    obtain ⟨hb, h⟩ := chk_wp h
    exact ⟨of_decide_eq_true hb, h _ H (Keep.refl H) t (.int _)⟩
  | lst ds =>
    obtain ⟨a, xs, rfl, na, ha, qa⟩ := dv_lst dv
    refine ⟨xs.length, .inl ⟨xs, .inl (SqL.of ha), rfl⟩, ?_⟩
    rw [dxa_len qa]
    exact h _ H (Keep.refl H) t (.int _)
  | tup ds =>
    obtain ⟨a, xs, rfl, ea', ea, qa⟩ := dv_tup dv
    refine ⟨xs.length, .inl ⟨xs, .inr ea, rfl⟩, ?_⟩
    rw [dxa_len qa]
    exact h _ H (Keep.refl H) t (.int _)
  | dct ks ds =>
    cases dv with
    | @dct a _ xs _ e l q =>
      refine ⟨(ks.zip xs).length, .inr ⟨_, (hide_get e).2, rfl⟩, ?_⟩
      rw [List.length_zip, ← l, Nat.min_self]
      exact h _ H (Keep.refl H) t (.int _)
  | _ => exact False.elim h
def intD : D → M D
  | .int i => M.ok (.int i)
  | .bl k => M.ok (.int (if k then 1 else 0))
  | _ => fun _ => .bad
theorem sb_int : SB K T E rIntU (bOne intD) := sb_one fun C v d H s Q dv t h => by
  cases d <;> first
    | exact False.elim h
    | (cases dv; exact h _ H (Keep.refl H) t (.int _))
def boolD : D → M D
  | .int i => M.ok (.bl (i != 0))
  | .bl k => M.ok (.bl k)
  | _ => fun _ => .bad
theorem sb_bool : SB K T E rBoolU (bOne boolD) := sb_one fun C v d H s Q dv t h => by
  cases d <;> first
    | exact False.elim h
    | (cases dv; exact h _ H (Keep.refl H) t (.bl _))
def absD : D → M D
  | .int i => M.ok (.int (if i < 0 then -i else i))
  | _ => fun _ => .bad
theorem sb_abs : SB K T E rAbsU (bOne absD) := sb_one fun C v d H s Q dv t h => by
  cases d <;> first
    | exact False.elim h
    | (cases dv; exact h _ H (Keep.refl H) t (.int _))
def strD : D → M D
  | .int i => chk (decide (i.natAbs.log2 < 1920)) (M.ok (.str (toString i)))
  | _ => fun _ => .bad
theorem sb_str : SB K T E rStrU (bOne strD) := sb_one fun C v d H s Q dv t h => by
  cases d <;> first
    | exact False.elim h
    | (cases dv; obtain ⟨hb, h⟩ := chk_wp h; exact ⟨of_decide_eq_true hb, h _ H (Keep.refl H) t (.str _)⟩)
def listD : D → M D
  | .lst ds => M.ok (.lst ds)
  | .tup ds => M.ok (.lst ds)
  | _ => fun _ => .bad
theorem sb_list : SB K T E (rListU K) (bOne listD) := sb_one fun C v d H s Q dv t h => by
  cases d with
  | lst ds =>
    obtain ⟨a, xs, rfl, na, ha, qa⟩ := dv_lst dv
    refine ⟨xs, .inl (SqL.of ha), fun p hp => ?_⟩
    obtain ⟨k, t', _⟩ := new_obj (o := .lst xs) t hp
    exact h _ _ k t' (dv_new_lst t hp qa)
  | tup ds =>
    obtain ⟨a, xs, rfl, ea', ea, qa⟩ := dv_tup dv
    refine ⟨xs, .inr ea, fun p hp => ?_⟩
    obtain ⟨k, t', _⟩ := new_obj (o := .lst xs) t hp
    exact h _ _ k t' (dv_new_lst t hp qa)
  | _ => exact False.elim h
def tupleD : D → M D
  | .lst ds => M.ok (.tup ds)
  | .tup ds => M.ok (.tup ds)
  | _ => fun _ => .bad
theorem sb_tup : SB K T E (rTupU K) (bOne tupleD) := sb_one fun C v d H s Q dv t h => by
  cases d with
  | lst ds =>
    obtain ⟨a, xs, rfl, na, ha, qa⟩ := dv_lst dv
    refine ⟨xs, .inl ⟨SqL.of ha, fun p hp => ?_⟩⟩
    obtain ⟨k, t', _⟩ := new_obj (o := .tup xs) t hp
    exact h _ _ k t' (dv_new_tup t hp qa)
  | tup ds =>
    obtain ⟨a, xs, rfl, ea', ea, qa⟩ := dv_tup dv
    exact ⟨xs, .inr ⟨ea, h _ H (Keep.refl H) t dv⟩⟩
  | _ => exact False.elim h
def asBs : List D → Option (List Bool)
  | [] => some []
  | .bl b :: r => (asBs r).map (b :: ·)
  | _ :: _ => none
def asIs : List D → Option (List Int)
  | [] => some []
  | .int b :: r => (asIs r).map (b :: ·)
  | _ :: _ => none
theorem asBs_dx {p : Option Addr} {H : Hp} : ∀ {ds : List D} {vs : List V} {bs : List Bool}, asBs ds = some bs → DxA K p H vs ds → vs = bs.map V.bl
  | [], _, _, e, h => by cases e; cases h; rfl
  | d :: ds, _, _, e, h => by
    cases h with
    | cons a b =>
      cases d <;> first
        | cases e
        | skip
      cases a
      unfold asBs at e
      cases z : asBs ds with
      | none => rw [z] at e; cases e
      | some bs =>
        rw [z] at e
        cases e
        rw [asBs_dx z b]
        rfl
theorem asIs_dx {p : Option Addr} {H : Hp} : ∀ {ds : List D} {vs : List V} {bs : List Int}, asIs ds = some bs → DxA K p H vs ds → vs = bs.map V.int
  | [], _, _, e, h => by cases e; cases h; rfl
  | d :: ds, _, _, e, h => by
    cases h with
    | cons a b =>
      cases d <;> first
        | cases e
        | skip
      cases a
      unfold asIs at e
      cases z : asIs ds with
      | none => rw [z] at e; cases e
      | some bs =>
        rw [z] at e
        cases e
        rw [asIs_dx z b]
        rfl
def onBs (f : List Bool → Bool) : D → M D
  | .lst ds => orBad (asBs ds) fun bs => M.ok (.bl (f bs))
  | _ => fun _ => .bad
abbrev allD := onBs fun bs => bs.all id
abbrev anyD := onBs fun bs => bs.any id
theorem sb_all : SB K T E (rAllU K) (bOne allD) := sb_one fun C v d H s Q dv t h => by
  cases d with
  | lst ds =>
    obtain ⟨bs, e, h⟩ := orBad_wp h
    obtain ⟨a, xs, rfl, na, ha, qa⟩ := dv_lst dv
    have z := asBs_dx e qa
    subst z
    exact ⟨bs, SqL.of ha, h _ H (Keep.refl H) t (.bl _)⟩
  | _ => exact False.elim h
theorem sb_any : SB K T E (rAnyU K) (bOne anyD) := sb_one fun C v d H s Q dv t h => by
  cases d with
  | lst ds =>
    obtain ⟨bs, e, h⟩ := orBad_wp h
    obtain ⟨a, xs, rfl, na, ha, qa⟩ := dv_lst dv
    have z := asBs_dx e qa
    subst z
    exact ⟨bs, SqL.of ha, h _ H (Keep.refl H) t (.bl _)⟩
  | _ => exact False.elim h
def sumD : D → M D
  | .lst ds => orBad (asIs ds) fun bs => M.ok (.int bs.sum)
  | _ => fun _ => .bad
theorem sb_sum : SB K T E (rSumU K) (bOne sumD) := sb_one fun C v d H s Q dv t h => by
  cases d with
  | lst ds =>
    obtain ⟨bs, e, h⟩ := orBad_wp h
    obtain ⟨a, xs, rfl, na, ha, qa⟩ := dv_lst dv
    have z := asIs_dx e qa
    subst z
    exact ⟨bs, SqL.of ha, h _ H (Keep.refl H) t (.int _)⟩
  | _ => exact False.elim h
/-! ### isinstance -/
def kdD : D → Option Kd
  | .non => some .non
  | .bl _ => some .bl
  | .int _ => some .int
  | .str _ => some .str
  | .lst _ => some .lst
  | .tup _ => some .tup
  | .dct _ _ => some .dct
  | .pen => none
theorem isV_of {C : Cc} {H : Hp} {v : V} {d : D} {k : Kd} {f : Kd → Bool} {Q : Bool → Prop} (h : Dv K C H v d) (e : kdD d = some k) (q : Q (f k)) : isV K H f Q v := by
  cases h with
  | non => cases e; exact q
  | bl b => cases e; exact q
  | int b => cases e; exact q
  | str b => cases e; exact q
  | lst e1 _ => cases e; exact ⟨_, .lst (SqL.of (hide_get e1).2), q⟩
  | tup e1 _ => cases e; exact ⟨_, .tup (same_seqT hide_same e1), q⟩
  | dct e1 _ _ => cases e; exact ⟨_, .dk (hide_get e1).2, q⟩
  | pen e => cases e
def dIs1 (c : Kd) (a : En → M D) : En → M D := fun ρ => M.bind (a ρ) fun d => orBad (kdD d) fun k => M.ok (.bl (isB k c))
def dIs2 (c c' : Kd) (a : En → M D) : En → M D := fun ρ => M.bind (a ρ) fun d => orBad (kdD d) fun k => M.ok (.bl (isB k c || isB k c'))
theorem se_is1 {ta : TE} {a : En → M D} (c : Kd) (ha : SE K T E ta a) : SE K T E (tCB (rIs1 K c) (tCons ta (tCons (tC (.ty c.nm)) tNil))) (dIs1 c a) := fun C σ H ρ s Q e t h =>
  se_then ha e t h fun d s1 v H1 k1 t1 dv e1 h1 => by
    obtain ⟨k, ek, h1⟩ := orBad_wp h1
    exact ⟨rfl, isV_of dv ek (h1 _ H1 k1 t1 (.bl _))⟩
theorem se_is2 {ta : TE} {a : En → M D} (c c' : Kd) (ha : SE K T E ta a) : SE K T E (tCB (rIs2 K c c') (tCons ta (tCons (tTup (tCons (tC (.ty c.nm)) (tCons (tC (.ty c'.nm)) tNil))) tNil))) (dIs2 c c' a) := fun C σ H ρ s Q e t h =>
  se_then ha e t h fun d s1 v H1 k1 t1 dv e1 h1 => by
    obtain ⟨k, ek, h1⟩ := orBad_wp h1
    refine ⟨Nat.le_of_ble_eq_true rfl, fun p hp => ?_⟩
    obtain ⟨k', t', _⟩ := new_obj (o := .tup [.ty c.nm, .ty c'.nm]) t1 hp
    exact ⟨upd_same, isV_of (k'.dv dv) ek (h1 _ _ (k1.trans k') t' (.bl _))⟩
/-! ### in -/
def oneSign : D → Option Nat
  | .str z => match z.cps.toList with
    | [c] => some c
    | _ => none
  | _ => none
theorem oneSign_eq {a : D} {c : Nat} (h : oneSign a = some c) : a = .str ⟨⟨[c]⟩⟩ := by
  cases a <;> first
    | cases h
    | skip
  rename_i z
  obtain ⟨⟨l⟩⟩ := z
  match l, h with
  | [c'], h => cases h; rfl
def dIn (neg : Bool) (a : D) : D → M D
  | .str z => orBad (oneSign a) fun c => M.ok (.bl (ng neg (decide (c ∈ z.cps.toList))))
  | .lst ds => orBad (toPy a) fun q => orBad (toPyA ds) fun qs => chk (SeqAt.shaped q && SeqAt.shaped (.list qs)) (M.ok (.bl (ng neg (qs.any fun z => PyData.eqv z q))))
  | .tup ds => orBad (toPy a) fun q => orBad (toPyA ds) fun qs => chk (SeqAt.shaped q && SeqAt.shaped (.tuple qs)) (M.ok (.bl (ng neg (qs.any fun z => PyData.eqv z q))))
  | .dct ks ds => orBad (asKey a) fun k => M.ok (.bl (ng neg (dGet ks ds k).isSome))
  | _ => fun _ => .bad
theorem s2_in (neg : Bool) : S2 (K := K) (T := T) (E := E) (oInU K neg) (dIn neg) := fun C x y dx dy H s Q hx hy t h => by
  cases dy with
  | str z =>
    obtain ⟨c, ec, h⟩ := orBad_wp h
    have ec := oneSign_eq ec
    subst ec
    cases hx; cases hy
    exact h _ H (Keep.refl H) t (.bl _)
  | lst ds =>
    obtain ⟨q, eq, h⟩ := orBad_wp h
    obtain ⟨qs, eqs, h⟩ := orBad_wp h
    obtain ⟨hb, h⟩ := chk_wp h
    simp only [Bool.and_eq_true] at hb
    have eL : toPy (.lst ds) = some (.list qs) := by unfold toPy; rw [eqs]; rfl
    have dl := dv_dp hy eL
    obtain ⟨a, xs, rfl, na, ha, qa⟩ := dv_lst hy
    exact Or.inl (Or.inr (Or.inl ⟨q, qs, dv_dp hx eq, dl, hb.1, hb.2, h _ H (Keep.refl H) t (.bl _)⟩))
  | tup ds =>
    obtain ⟨q, eq, h⟩ := orBad_wp h
    obtain ⟨qs, eqs, h⟩ := orBad_wp h
    obtain ⟨hb, h⟩ := chk_wp h
    simp only [Bool.and_eq_true] at hb
    have eL : toPy (.tup ds) = some (.tuple qs) := by unfold toPy; rw [eqs]; rfl
    have dl := dv_dp hy eL
    obtain ⟨a, xs, rfl, ea', ea, qa⟩ := dv_tup hy
    exact Or.inr ⟨q, qs, dv_dp hx eq, dl, hb.1, hb.2, h _ H (Keep.refl H) t (.bl _)⟩
  | dct ks ds =>
    obtain ⟨k, ek, h⟩ := orBad_wp h
    cases hy with
    | @dct a _ xs _ e l q =>
      have z := dGet_val (x := k) l q
      rw [asKey_kV hx ek]
      refine Or.inl (Or.inl ⟨_, DGet.k (hide_get e).2, ?_⟩)
      have ez : (valV (ks.zip xs) k).isSome = (dGet ks ds k).isSome := by
        cases w : dGet ks ds k with
        | none =>
          rw [w] at z
          have z : valV (ks.zip xs) k = none := z
          rw [z]
          rfl
        | some d =>
          rw [w] at z
          obtain ⟨v, hv, _⟩ := z
          rw [hv]
          rfl
      rw [ez]
      exact h _ H (Keep.refl H) t (.bl _)
  | _ => exact False.elim h
end
end GW

namespace GW
open PySem L2
section
variable {K : PySem.W.Frag} {T : List (Addr × Str)} {E : XK}
/-! ### the pen is written -/
def setPen (i n : Int) : M Unit := fun s => if i = 1 then .ok () { s with at_ := n } else if i = 2 then .ok () { s with left := n } else .bad
def setD : D → D → D → M Unit
  | .pen, k, v => asI (fun i => asI (setPen i) v) k
  | _, _, _ => fun _ => .bad
def dSet (a o i : En → M D) : En → M Out := fun ρ => M.bind (a ρ) fun v => M.bind (o ρ) fun x => M.bind (i ρ) fun k => M.bind (setD x k v) fun _ => M.ok (.nx ρ)
theorem pen_set {C : Cc} {H : Hp} {s s' : PenS} {p c : Addr} {ys : List V} (t : Stt T C H s) (e : C.pen = some (p, c)) (ey : ys = [.ref c, .int s'.at_, .int s'.left]) (ec : s'.cells = s.cells) : Keep C H (upd H p (.lst ys)) ∧ Stt T C (upd H p (.lst ys)) s' := by
  obtain ⟨z1, z2, z3, z4⟩ := t.pen _ _ e
  refine ⟨fun b o n _ h => by rw [upd_ne (fun z => n (by rw [z]; exact z1))]; exact h, fun b hb => ?_, fun q hq => ?_, fun p' c' h => ?_⟩
  · by_cases z : b = p
    · rw [z]; exact ⟨_, upd_same, fun _ z => nomatch z⟩
    · rw [upd_ne z]; exact t.has b hb
  · obtain ⟨ps, h, ok, f⟩ := t.tabs q hq
    have n1 : q.1 ≠ p := fun z => by rw [z, z3] at h; cases h
    refine ⟨ps, by rw [upd_ne n1]; exact h, ok, fun pos cv hc => ?_⟩
    obtain ⟨c1, e1, e2⟩ := f pos cv hc
    have n2 : c1 ≠ p := fun z => by rw [z, z3] at e2; cases e2
    exact ⟨c1, e1, by rw [upd_ne n2]; exact e2⟩
  · rw [e] at h
    cases h
    exact ⟨z1, z2, by rw [upd_same, ey], by rw [upd_ne (fun z => z2 (by rw [z]; exact List.mem_append_left _ z1)), ec]; exact z4⟩
theorem ss_set {ta to ti : TE} {a o i : En → M D} (ha : SE K T E ta a) (ho : SE K T E to o) (hi : SE K T E ti i) : SS K T E (tAsg ta (gSub to ti (oSet K))) (dSet a o i) := fun C σ H ρ s N e t h =>
  se_then ha e t h fun d s1 v H1 k1 t1 dv e1 h1 => by
    refine ho C σ H1 ρ s1 _ e1 t1 (R.wp_mono (M.wp_bind h1) (fun d2 s2 h2 v2 H2 k2 t2 dv2 => ?_) fun _ _ _ _ h => ke_step k1 h)
    have k12 := k1.trans k2
    refine hi C σ H2 ρ s2 _ (e1.keep k2) t2 (R.wp_mono (M.wp_bind h2) (fun d3 s3 h3 v3 H3 k3 t3 dv3 => ?_) fun _ _ _ _ h => ke_step k12 h)
    have k13 := k12.trans k3
    have h4 := M.wp_bind h3
    cases d2 with
    | pen =>
      have h4 : (asI (fun i => asI (setPen i) d) d3 s3).wp (fun a s' => (M.ok (Out.nx ρ) s').wp (OK K T C H N) (KE K T E C H)) (KE K T E C H) := h4
      obtain ⟨j, rfl, h5⟩ := asI_wp h4
      have h6 : (asI (setPen j) d s3).wp (fun a s' => (M.ok (Out.nx ρ) s').wp (OK K T C H N) (KE K T E C H)) (KE K T E C H) := h5
      obtain ⟨n, rfl, h7⟩ := asI_wp h6
      cases dv
      cases dv3
      have dv2' := k3.dv dv2
      cases dv2' with
      | pen ep =>
        cases e0 : C.pen with
        | none => rw [Cc.p, e0] at ep; cases ep
        | some pc =>
          obtain ⟨p, c⟩ := pc
          rw [Cc.p, e0] at ep
          cases ep
          obtain ⟨z1, z2, z3, z4⟩ := t3.pen _ _ e0
          unfold setPen at h7
          by_cases e1' : j = 1
          · subst e1'
            rw [if_pos rfl] at h7
            obtain ⟨k, t4⟩ := pen_set (s' := { s3 with at_ := n }) (ys := [.ref c, .int n, .int s3.left]) t3 e0 rfl rfl
            refine Or.inl ⟨_, 1, 1, rfl, z3, rfl, ?_⟩
            exact h7 _ (k13.trans k) t4 σ (((e1.keep k2).keep k3).keep k)
          · rw [if_neg e1'] at h7
            by_cases e2' : j = 2
            · subst e2'
              rw [if_pos rfl] at h7
              obtain ⟨k, t4⟩ := pen_set (s' := { s3 with left := n }) (ys := [.ref c, .int s3.at_, .int n]) t3 e0 rfl rfl
              refine Or.inl ⟨_, 2, 2, rfl, z3, rfl, ?_⟩
              exact h7 _ (k13.trans k) t4 σ (((e1.keep k2).keep k3).keep k)
            · rw [if_neg e2'] at h7
              exact False.elim h7
    | _ => exact False.elim h4
/-! ### errors -/
def dRaise (x : Str) (fs : List Str) (a : En → M (List D)) : En → M Out := fun ρ => M.bind (a ρ) fun ds => chk (decide (ds.length = fs.length)) fun s => .er x fs.reverse ds.reverse s
theorem dxa_rev {p : Option Addr} {H : Hp} : ∀ {vs : List V} {ds : List D}, DxA K p H vs ds → DxA K p H vs.reverse ds.reverse
  | _, _, .nil => .nil
  | _, _, .cons a b => by
    rw [List.reverse_cons, List.reverse_cons]
    exact dxa_app (dxa_rev b) (.cons a .nil)
theorem zip_snoc {α β : Type} : ∀ {as : List α} {bs : List β} {a : α} {b : β}, as.length = bs.length → (as ++ [a]).zip (bs ++ [b]) = as.zip bs ++ [(a, b)]
  | [], [], _, _, _ => rfl
  | [], _ :: _, _, _, h => by cases h
  | _ :: _, [], _, _, h => by cases h
  | x :: as, y :: bs, a, b, h => by simp [zip_snoc (as := as) (bs := bs) (Nat.succ.inj h)]
theorem zip_rev {α β : Type} : ∀ {as : List α} {bs : List β}, as.length = bs.length → (as.zip bs).reverse = as.reverse.zip bs.reverse
  | [], [], _ => rfl
  | [], _ :: _, h => by cases h
  | _ :: _, [], h => by cases h
  | x :: as, y :: bs, h => by
    rw [List.zip_cons_cons, List.reverse_cons, List.reverse_cons, List.reverse_cons, zip_snoc (by simp [Nat.succ.inj h]), zip_rev (Nat.succ.inj h)]
theorem ss_raise {x : Str} {fs : List Str} {ta : TA} {a : En → M (List D)} (ha : SA K T E ta a) : SS K T E (tRaise K x fs ta (fun cls d _ H => E cls d H)) (dRaise x fs a) := fun C σ H ρ s N e t h =>
  sa_then ha e t h fun ds s1 vs H1 k1 t1 dv e1 h1 => by
    obtain ⟨hb, h1⟩ := chk_wp h1
    have hb : ds.length = fs.length := of_decide_eq_true hb
    have el := dxa_len dv
    refine ⟨by omega, fun dd hd => ?_⟩
    obtain ⟨k, t', _⟩ := new_obj (o := .xd (fs.zip vs).reverse) t1 hd
    exact h1 vs.reverse dd _ (k1.trans k) t' (by rw [upd_same, zip_rev (by omega)]) (by simp; omega) (dxa_rev (k.dvA dv))
/-! ### lambdas handed to a def that hears -/
def TTM (K : PySem.W.Frag) (T : List (Addr × Str)) (hm : R D → R D) : Hear := fun tl H Q => ∃ C s r, Stt T C H s ∧ (∀ C1 H1 Q' E', C.le C1 H → Keep C1 H H1 → Stt T C1 H1 s → (r : R D).wp (KQ K T C1 H1 Q') (KE K T E' C1 H1) → tl E' H1 Q') ∧ (hm r).wp (KQ K T C H Q) (fun _ _ _ _ => False)
def dLam (hm : R D → R D) (m : En → M D) : En → M D := fun ρ s => match hm (m ρ s) with
  | .ok d s' => .ok d s'
  | _ => .bad
theorem se_lam {hm : R D → R D} {te : XK → TE} {m : En → M D} (he : ∀ E', SE K T E' (te E') m) : SE K T E (mLam T (TTM K T hm) te) (dLam hm m) := fun C σ H ρ s Q e t h => by
  refine ⟨t.tabs, fun H1 x1 T1 => ?_⟩
  have k1 : Keep C H H1 := fun b o _ nt hb => x1 b o hb nt
  have t1 : Stt T C H1 s := by
    refine ⟨fun b hb => ?_, T1, fun p c e => ?_⟩
    · obtain ⟨o, q, n⟩ := t.has b hb
      exact ⟨o, x1 _ _ q n, n⟩
    · obtain ⟨z1, z2, z3, z4⟩ := t.pen p c e
      exact ⟨z1, z2, x1 _ _ z3 (fun _ z => nomatch z), x1 _ _ z4 (fun _ z => nomatch z)⟩
  refine ⟨C, s, m ρ s, t1, fun C1 H2 Q' E' l k t2 hw => ?_, ?_⟩
  · exact he E' C1 σ H2 ρ s Q' ((env_up l (e.keep k1)).keep k) t2 hw
  · unfold dLam at h
    cases e : hm (m ρ s) with
    | ok d s' =>
      rw [e] at h
      exact fun v H' k => h v H' (k1.trans k)
    | er _ _ _ _ => rw [e] at h; exact False.elim h
    | bad => rw [e] at h; exact False.elim h
end
end GW

namespace GW
section
open PySem PySem.Spec PyProof.Rows L2
/-! ### written dicts of ints: in -/
theorem kdes_none {P : Program} {w : World} {K : PySem.W.Frag} {i : Int} : ∀ {kvs : List (Int × PyData)} {es : List DictEntry}, kdI.kdes K kvs es = true → kgI kvs i = none → (es.find? fun e => (intKind P w).is i e.key) = none
  | [], es, h, g => by
    unfold kdI.kdes at h
    rw [List.isEmpty_iff.mp h]
    rfl
  | (j, d') :: r, [], h, g => rfl
  | (j, d') :: r, x :: es, h, g => by
    unfold kdI.kdes at h
    obtain ⟨h1, h⟩ := He.ba h
    obtain ⟨h2, h⟩ := He.ba h
    obtain ⟨h3, h4⟩ := He.ba h
    split at h1
    · rename_i j' t ek
      have ej : j' = j := of_decide_eq_true h1
      unfold kgI at g
      rw [List.find?_cons]
      by_cases y : j = i
      · rw [if_pos y] at g
        cases g
      · rw [if_neg y] at g
        have e1 : (intKind P w).is i x.key = false := by rw [ek, ej]; simp [intKind, Value.isInt, y]
        rw [e1]
        exact kdes_none h4 g
    · cases h1
def oInI (K : PySem.W.Frag) (neg : Bool) : R2 := fun x y H Q => match x, y with
  | .int i, .ref a => ∃ kvs, kdI K a kvs = true ∧ (a == sysModules) = false ∧ Q (.bl (ng neg (kgI kvs i).isSome)) H
  | _, _ => False
section
variable {X : Cx}
theorem kdI_map {K : PySem.W.Frag} {P : Program} {w : World} {a : Addr} {kvs : List (Int × PyData)} {i : Int} {h : Heap} (hk : kdI K a kvs = true) (kIn : K.In h) :
    ∃ es : Array DictEntry, h.MapOf (intKind P w) a (fun k => findBy (intKind P w).is es k) ∧ (findBy (intKind P w).is es i).isSome = (kgI kvs i).isSome := by
  unfold kdI at hk
  split at hk
  · rename_i c es ep sl lk
    obtain ⟨h1, h'⟩ := He.ba hk
    obtain ⟨h2, h3⟩ := He.ba h'
    have e1 := of_decide_eq_true h1
    have e2 : sl = #[] := Array.isEmpty_iff.mp h2
    subst e1 e2
    refine ⟨es, ⟨_, es, ep, kIn a _ lk, ⟨rfl, rfl, rfl⟩, rfl, fun e he => kdes_keys h3 e (Array.mem_toList_iff.mpr he), fun _ => rfl⟩, ?_⟩
    have fe : findBy (intKind P w).is es i = (es.toList.find? fun e => (intKind P w).is i e.key).map (·.val) := by
      unfold findBy
      simp
    rw [fe]
    cases g : kgI kvs i with
    | none => rw [kdes_none h3 g]; rfl
    | some d =>
      obtain ⟨u, hu, _⟩ := kdes_find (P := P) (w := w) h3 g
      rw [hu]
      rfl
  · cases hk
theorem uo_inI : OpR X (compareOp .In) (oInI X.K false) := by
  intro pins s σ H x y v u Q I rx ry h
  cases x <;> cases y <;> first
    | exact False.elim h
    | skip
  rename_i i a
  obtain ⟨kvs, hk, hs, q⟩ := h
  obtain ⟨t, rfl⟩ := rx
  cases ry
  obtain ⟨es, hm, e⟩ := kdI_map (P := X.prog) (w := X.w) (i := i) hk I.kIn
  refine wpAny_in_of (k := i) (by simp [intKind, Value.isInt]) hs hm ⟨.bl _, H, I.tok _, rfl, ?_⟩
  rw [e]
  exact q
theorem uo_ninI : OpR X (compareOp .NotIn) (oInI X.K true) := by
  intro pins s σ H x y v u Q I rx ry h
  cases x <;> cases y <;> first
    | exact False.elim h
    | skip
  rename_i i a
  obtain ⟨kvs, hk, hs, q⟩ := h
  obtain ⟨t, rfl⟩ := rx
  cases ry
  obtain ⟨es, hm, e⟩ := kdI_map (P := X.prog) (w := X.w) (i := i) hk I.kIn
  refine wpAny_notIn_of (k := i) (by simp [intKind, Value.isInt]) hs hm ⟨.bl _, H, I.tok _, rfl, ?_⟩
  rw [e]
  exact q
end
end
end GW
namespace GW
open PySem L2
section
variable {K : PySem.W.Frag} {T : List (Addr × Str)} {E : XK}
mutual
def ofPy : PyData → D
  | .none => .non
  | .bool b => .bl b
  | .int i => .int i
  | .str s => .str s
  | .list ds => .lst (ofPyA ds)
  | .tuple ds => .tup (ofPyA ds)
  | .dict _ => .non
def ofPyA : List PyData → List D
  | [] => []
  | d :: ds => ofPy d :: ofPyA ds
end
mutual
/-- nothing that can be written -/
def tupsB : PyData → Bool
  | .list _ => false
  | .dict _ => false
  | .tuple ds => tupsA ds
  | _ => true
def tupsA : List PyData → Bool
  | [] => true
  | d :: ds => tupsB d && tupsA ds
end
mutual
theorem dp_dx {p : Option Addr} {G : Hp} : ∀ (q : PyData) (v : V), tupsB q = true → Dp K G v q → Dx K p G v (ofPy q)
  | .none, _, _, h => by cases h; exact .non
  | .bool b, _, _, h => by cases h; exact .bl b
  | .int i, _, _, h => by cases h; exact .int i
  | .str x, _, _, h => by cases h; exact .str x
  | .list ds, _, e, _ => by cases e
  | .dict ds, _, e, _ => by cases e
  | .tuple ds, _, e, h => by
    cases h with
    | tup q a => exact .tup q (dpa_dxa ds _ e a)
theorem dpa_dxa {p : Option Addr} {G : Hp} : ∀ (qs : List PyData) (vs : List V), tupsA qs = true → DpAll K G vs qs → DxA K p G vs (ofPyA qs)
  | [], _, _, h => by cases h; exact .nil
  | q :: qs, _, e, h => by
    cases h with
    | cons a b =>
      obtain ⟨e1, e2⟩ := He.ba e
      exact .cons (dp_dx q _ e1 a) (dpa_dxa qs _ e2 b)
end
/-- a written constant -/
theorem se_const {a : Addr} {q : PyData} (hk : kdp K q (.ref a) = true) (ht : tupsB q = true) : SE K T E (tC (.ref a)) fun _ => M.ok (ofPy q) := fun C σ H ρ s Q e t h =>
  h _ H (Keep.refl H) t (dp_dx q _ ht (kdp_dp hk rfl))
def dIxI (kvs : List (Int × PyData)) (b : En → M D) : En → M D := fun ρ => M.bind (b ρ) (asI fun i => orBad (kgI kvs i) fun q => M.ok (ofPy q))
theorem se_ixI {a : Addr} {kvs : List (Int × PyData)} {tb : TE} {b : En → M D} (hk : kdI K a kvs = true) (ht : (kvs.all fun p => tupsB p.2) = true) (hb : SE K T E tb b) : SE K T E (tOp (oIxI K) (tC (.ref a)) tb) (dIxI kvs b) := fun C σ H ρ s Q e t h =>
  se_then hb e t h fun d s1 v H1 k1 t1 dv e1 h1 => by
    obtain ⟨i, rfl, h2⟩ := asI_wp h1
    have h3 : ((orBad (kgI kvs i) fun q => M.ok (ofPy q)) s1).wp (KQ K T C H Q) (KE K T E C H) := h2
    obtain ⟨q, hq, h4⟩ := orBad_wp h3
    cases dv
    have tq : tupsB q = true := by
      have key : ∀ l : List (Int × PyData), (l.all fun p => tupsB p.2) = true → kgI l i = some q → tupsB q = true := by
        intro l
        induction l with
        | nil => intro _ h; cases h
        | cons p l ih =>
          intro ha hg
          rw [List.all_cons] at ha
          obtain ⟨h1, h2⟩ := He.ba ha
          unfold kgI at hg
          by_cases z : p.1 = i
          · rw [if_pos z] at hg
            cases hg
            exact h1
          · rw [if_neg z] at hg
            exact ih h2 hg
      exact key kvs ht hq
    exact ⟨kvs, q, hk, hq, fun v dp => h4 v H1 k1 t1 (dp_dx q _ tq (dp _))⟩
def dInI (neg : Bool) (kvs : List (Int × PyData)) (b : En → M D) : En → M D := fun ρ => M.bind (b ρ) (asI fun i => M.ok (.bl (ng neg (kgI kvs i).isSome)))
theorem se_inI {a : Addr} {neg : Bool} {kvs : List (Int × PyData)} {tb : TE} {b : En → M D} (hk : (kdI K a kvs && !(a == sysModules)) = true) (hb : SE K T E tb b) : SE K T E (tOp (oInI K neg) tb (tC (.ref a))) (dInI neg kvs b) := fun C σ H ρ s Q e t h =>
  se_then hb e t h fun d s1 v H1 k1 t1 dv e1 h1 => by
    obtain ⟨i, rfl, h2⟩ := asI_wp h1
    obtain ⟨hk1, hk2⟩ := He.ba hk
    cases dv
    exact ⟨kvs, hk1, by simpa using hk2, h2 _ H1 k1 t1 (.bl _)⟩
/-! ### dict displays -/
def dPairs : List ((En → M D) × (En → M D)) → En → M (List Key × List D)
  | [], _ => M.ok ([], [])
  | (a, b) :: r, ρ => M.bind (a ρ) fun k => M.bind (b ρ) fun d => orBad (asKey k) fun x => M.bind (dPairs r ρ) fun l => M.ok (x :: l.1, d :: l.2)
def SPs (K : PySem.W.Frag) (T : List (Addr × Str)) (E : XK) (trs : List (TE × TE)) (m : En → M (List Key × List D)) : Prop := ∀ C σ H ρ s Q, Env K C H σ ρ → Stt T C H s → (m ρ s).wp (fun l s' => ∀ vs H', Keep C H H' → Stt T C H' s' → l.1.length = vs.length → DvA K C H' vs l.2 → Q ((l.1.zip vs).map fun kv => (kV kv.1, kv.2)) H') (KE K T E C H) → tPairs trs σ H Q
theorem sps_nil : SPs K T E [] (dPairs []) := fun C σ H ρ s Q e t h => h [] H (Keep.refl H) t rfl .nil
theorem sps_cons {ta tb : TE} {r : List (TE × TE)} {a b : En → M D} {mr : List ((En → M D) × (En → M D))} (ha : SE K T E ta a) (hb : SE K T E tb b) (hr : SPs K T E r (dPairs mr)) : SPs K T E ((ta, tb) :: r) (dPairs ((a, b) :: mr)) := fun C σ H ρ s Q e t h =>
  se_then ha e t h fun d s1 v H1 k1 t1 dv e1 h1 => by
    refine hb C σ H1 ρ s1 _ e1 t1 (R.wp_mono (M.wp_bind h1) (fun d2 s2 h2 v2 H2 k2 t2 dv2 => ?_) fun _ _ _ _ h => ke_step k1 h)
    have k12 := k1.trans k2
    obtain ⟨x, hx, h3⟩ := orBad_wp h2
    refine hr C σ H2 ρ s2 _ (e1.keep k2) t2 (R.wp_mono (M.wp_bind h3) (fun l s4 h4 vs H3 k3 t3 ll da => ?_) fun _ _ _ _ h => ke_step k12 h)
    have z := h4 (v2 :: vs) H3 (k12.trans k3) t3 (by simp; exact ll) (.cons (k3.dv dv2) da)
    rw [asKey_kV dv hx]
    exact z
def nodupK : List Key → Bool
  | [] => true
  | k :: ks => (ks.all fun x => !decide (x = k)) && nodupK ks
def dDisp (ps : List ((En → M D) × (En → M D))) : En → M D := fun ρ => M.bind (dPairs ps ρ) fun l => chk (nodupK l.1 && decide (l.1.length ≤ 15)) (M.ok (.dct l.1 l.2))
theorem putK_new {kvs : List (Key × V)} {k : Key} {v : V} (h : k ∉ kvs.map Prod.fst) : putK kvs k v = kvs ++ [(k, v)] := by
  unfold putK
  rw [if_neg]
  intro z
  obtain ⟨p, hp, e⟩ := List.any_eq_true.mp z
  have e := of_decide_eq_true e
  exact h (e ▸ List.mem_map_of_mem hp)
theorem merge_nodup : ∀ (more kvs : List (Key × V)), nodupK (more.map Prod.fst) = true → (∀ k ∈ more.map Prod.fst, k ∉ kvs.map Prod.fst) → mergeK kvs more = kvs ++ more
  | [], kvs, _, _ => by simp [mergeK]
  | p :: more, kvs, h, hd => by
    obtain ⟨h1, h2⟩ := He.ba h
    have h1 : p.1 ∉ more.map Prod.fst := fun z => by
      have y := List.all_eq_true.mp h1 _ z
      simp at y
    have e : mergeK kvs (p :: more) = mergeK (putK kvs p.1 p.2) more := rfl
    rw [e, putK_new (hd p.1 (by simp)), merge_nodup more _ h2 fun k hk => ?_]
    · simp
    · have a := hd k (List.mem_cons_of_mem _ hk)
      rw [List.map_append]
      intro z
      rcases List.mem_append.mp z with z | z
      · exact a z
      · have z : k = p.1 := List.mem_singleton.mp z
        exact h1 (z ▸ hk)
theorem se_disp {trs : List (TE × TE)} {ps : List ((En → M D) × (En → M D))} (hp : SPs K T E trs (dPairs ps)) : SE K T E (tDisp trs) (dDisp ps) := fun C σ H ρ s Q e t h => by
  intro p hn
  have l := le_plus (C := C) hn
  have t0 := stt_plus (o := .dK []) t hn (fun _ z => nomatch z)
  have k0 : Keep C H (upd H p (.dK [])) := same_keep (same_new hn)
  have nO : p ∉ (C.plus p).own := Cc.off (C := C) (t.off hn)
  refine hp (C.plus p) σ (upd H p (.dK [])) ρ s _ ((env_up l e).keep (same_keep (same_new hn))) t0 (R.wp_mono (M.wp_bind h) (fun ld s1 h1 vs H2 k2 t2 ll da => ?_) fun x ns dd s h => ke_up l t (Keep.refl H) (same_keep (same_new hn)) h)
  obtain ⟨hb, h1⟩ := chk_wp h1
  obtain ⟨hb1, hb2⟩ := He.ba hb
  have hb2 : ld.1.length ≤ 15 := of_decide_eq_true hb2
  have e2 : H2 p = some (.dK []) := k2 p (.dK []) nO (fun _ z => nomatch z) upd_same
  refine ⟨e2, ld.1.zip vs, rfl, by rw [List.length_zip, ← ll, Nat.min_self]; exact hb2, ?_⟩
  have em : mergeK [] (ld.1.zip vs) = ld.1.zip vs := by
    have ef : (ld.1.zip vs).map Prod.fst = ld.1 := List.map_fst_zip (by omega)
    rw [merge_nodup _ [] (by rw [ef]; exact hb1) (fun _ _ z => nomatch z), List.nil_append]
  rw [em]
  have nA := t.off hn
  have kk : Keep C H (upd H2 p (.dK (ld.1.zip vs))) := keep_put hn (l.keep (k0.trans k2 : Keep C H H2))
  refine h1 _ _ kk ?_ ?_
  · have z := l.stt t2 t
    refine ⟨fun b hb => ?_, ?_, fun q c hq => ?_⟩
    · obtain ⟨o, ho, n⟩ := z.has b hb
      exact ⟨o, by rw [upd_ne (fun y => nA (by rw [← y]; exact hb))]; exact ho, n⟩
    · intro y hy
      obtain ⟨ps', h', ok, f⟩ := z.tabs y hy
      have n1 : y.1 ≠ p := fun w => by rw [w, e2] at h'; cases h'
      refine ⟨ps', by rw [upd_ne n1]; exact h', ok, fun pos cv hc => ?_⟩
      obtain ⟨c, e3, e4⟩ := f pos cv hc
      have n2 : c ≠ p := fun w => by rw [w, e2] at e4; cases e4
      exact ⟨c, e3, by rw [upd_ne n2]; exact e4⟩
    · obtain ⟨z1, z2, z3, z4⟩ := z.pen q c hq
      have n1 : q ≠ p := fun w => by rw [w, e2] at z3; cases z3
      have n2 : c ≠ p := fun w => by rw [w, e2] at z4; cases z4
      exact ⟨z1, z2, by rw [upd_ne n1]; exact z3, by rw [upd_ne n2]; exact z4⟩
  · refine .dct (hide_at nA upd_same) ll ?_
    have z := put_dvA (o := .dK (ld.1.zip vs)) plus_mem da
    exact l.dvAUp z
end
end GW

namespace GW
open PySem L2
section
variable {K : PySem.W.Frag} {T : List (Addr × Str)} {E : XK}
theorem line1000 {n : Nat} (h : n ≤ 1000) : n ≤ sizeLine := Nat.le_trans h (by decide)
theorem cut_to {xs : List V} (k : Nat) : cutV xs none (some (k : Int)) = xs.take k := by
  unfold cutV
  rw [HT.sIx_none, HT.sIx_nat, List.drop_zero, Nat.sub_zero]
  by_cases h : k ≤ xs.length
  · rw [Nat.min_eq_left h]
  · rw [Nat.min_eq_right (by omega), List.take_length, List.take_of_length_le (by omega)]
def onlyI : V → Option V
  | .int i => some (.int i)
  | _ => none
theorem fm_ints (ns : List Int) : (ns.map V.int).filterMap onlyI = ns.map V.int := by
  induction ns with
  | nil => rfl
  | cons a l ih => rw [List.map_cons, List.filterMap_cons, ih]; rfl
/-- a def that hears is through: what it tells is a new tuple -/
theorem heard_end {C : Cc} {H H1 G G2 : Hp} {p r : Addr} {s s' : PenS} {us ys : List V} {ds : List D} {Q : VK} (st : Stt T C H s) (hp : H p = none) (s1 : Same H H1) (k : Keep (C.plus p) H1 G) (t : Stt T (C.plus p) G s') (s2 : Same G G2) (nr : G2 r = none) (g1 : G p = some (.lst []))
    (dv : DvA K (C.plus p) G us ds) (q : KQ K T C H Q (.tup ds) s') : Q (.ref r) (upd (upd G2 r (.tup us)) p (.lst ys)) := by
  have l := le_plus (C := C) hp
  have nO : p ∉ (C.plus p).own := Cc.off (C := C) (st.off hp)
  have t2 := t.same s2
  have off := t2.off nr
  have s3 : Same G2 (upd G2 r (.tup us)) := same_new nr
  have t3 := t2.same s3
  have g13 := s3 _ _ (s2 _ _ g1)
  have t4 := stt_put (o' := .lst ys) t3 plus_mem g13 nO (fun _ z => nomatch z)
  have k3 : Keep (C.plus p) G (upd G2 r (.tup us)) := same_keep (s2.trans s3)
  have pr : r ≠ p := fun z => off (by rw [z]; exact plus_mem)
  refine q (.ref r) _ ?_ (l.stt t4 st) ?_
  · exact keep_put hp (l.keep (((same_keep s1 : Keep (C.plus p) H H1).trans k).trans k3))
  · have h5 : hide C.all (upd (upd G2 r (.tup us)) p (.lst ys)) r = some (.tup us) := hide_at (fun z => off (l.mem z)) (by rw [upd_ne pr]; exact upd_same)
    exact .tup (SqT.of h5) (l.dvAUp (put_dvA plus_mem (k3.dvA dv)))
/-- behind the making of the pen -/
theorem pen_rest {rest : TS} {mr : En → M Out} (hr : SS K T E0 rest mr) {H1 : Hp} {p c : Addr} {cells : List Int} {σ : St} {ρ : En} {N : Ends} (T1 : LamX.Tabs T H1) (hp : H1 p = some (.lst [.ref c, .int 0, .int 0])) (hc : H1 c = some (.lst (cells.map V.int)))
    (e : Env K ⟨[p], [], some (p, c)⟩ H1 σ ρ) (h : ∃ s', mr ρ ⟨cells, 0, 0⟩ = .ok (.rt (.bl true)) s') (q : ∀ H', N.rt (.bl true) H') : rest N σ H1 := by
  have ne : c ≠ p := fun z => by
    rw [z, hp] at hc
    have hc := Option.some.inj hc
    injection hc with hc
    cases cells with
    | nil => cases hc
    | cons a l => rw [List.map_cons] at hc; injection hc with h1 _; cases h1
  have st : Stt T ⟨[p], [], some (p, c)⟩ H1 ⟨cells, 0, 0⟩ := by
    refine ⟨fun b hb => ?_, T1, fun p' c' h => ?_⟩
    · have hb : b = p := by simpa [Cc.all] using hb
      rw [hb]
      exact ⟨_, hp, fun _ z => nomatch z⟩
    · cases h
      exact ⟨List.mem_cons_self, by simpa [Cc.all] using ne, hp, hc⟩
  obtain ⟨s', hm⟩ := h
  refine hr _ σ H1 ρ _ N e st ?_
  rw [hm]
  exact fun H' _ _ v dv => by
    cases dv
    exact q H'
theorem ln_M {k n : Nat} {b : En → M Out} {vs : List V} {H : Hp} {Q : VK} (h : spM K T (fun ds => chk (decide (ds.length = k)) (bodyD n b ds)) vs H Q E) : vs.length = k := by
  obtain ⟨C, ds, s, st, dv, h⟩ := h
  obtain ⟨hb, _⟩ := chk_wp h
  rw [dxa_len dv]
  exact of_decide_eq_true hb
/-- a def of k arguments, n slots -/
def defD (k n : Nat) (b : En → M Out) : List D → M D := fun ds => chk (decide (ds.length = k)) (bodyD n b ds)
theorem len_M {k n : Nat} {b : En → M Out} : ∀ vs H Q E, spM K T (defD k n b) vs H Q E → vs.length = k := by
  rintro vs H Q E ⟨C, ds, s, st, dv, h⟩
  obtain ⟨hb, _⟩ := chk_wp h
  rw [dxa_len dv]
  exact of_decide_eq_true hb
theorem len_P {k n : Nat} {b : En → M Out} : ∀ vs H Q E, spP K T (defD k n b) vs H Q E → vs.length = k := by
  rintro vs H Q E ⟨C, ds, s, st, dv, h⟩
  have h : (defD k n b ds s).wp (KQ K T C H Q) (KE K T E C H) := noEr_wp h
  obtain ⟨hb, _⟩ := chk_wp h
  rw [dxa_len dv]
  exact of_decide_eq_true hb
theorem ok_M {N : List Str} {k : Nat} {t : TS} {b : En → M Out} (hb : SS K T E t b) : ∀ vs H Q, spM K T (defD k N.length b) vs H Q E → t { nx := fun _ H' => Q .non H', rt := Q } (L2.start N vs) H := by
  rintro vs H Q ⟨C, ds, s, st, dv, h⟩
  exact body_ok hb st dv (chk_wp h).2
theorem ok_P {N : List Str} {k : Nat} {t : TS} {b : En → M Out} (hb : SS K T E0 t b) : ∀ vs H Q E, spP K T (defD k N.length b) vs H Q E → t { nx := fun _ H' => Q .non H', rt := Q } (L2.start N vs) H := by
  rintro vs H Q E ⟨C, ds, s, st, dv, h⟩
  have h : (defD k N.length b ds s).wp (KQ K T C H Q) (KE K T E0 C H) := noEr_wp h
  exact body_ok hb st dv (chk_wp h).2
end
end GW

/-! plain reasoning about models -/
namespace GW
open PySem L2
theorem lcGo_name {i : Nat} {te : En → M D} {ρ : En} {s : PenS} (f : D → D) : ∀ {ds : List D}, (∀ d ∈ ds, te (ρ.set i (some d)) s = .ok (f d) s) → lcGo (dName i) (fun _ => M.ok true) te ρ ds s = .ok (ds.map f) s
  | [], _ => rfl
  | d :: ds, h => by
    have ih := lcGo_name (ds := ds) (i := i) (te := te) (ρ := ρ) (s := s) f fun x hx => h x (List.mem_cons_of_mem _ hx)
    have h0 := h d List.mem_cons_self
    simp only [lcGo, M.bind, dName, M.ok] at ih ⊢
    rw [h0]
    simp only
    rw [ih]
    rfl
/-- one after another, each may change the pen -/
theorem lcGo_pen {i : Nat} {te : En → M D} {ρ : En} (I : Nat → PenS → Prop) (P : D → Prop) : ∀ {ds : List D} {n : Nat} {s : PenS}, I n s → (∀ d ∈ ds, ∀ n' s', n ≤ n' → n' < n + ds.length → I n' s' → ∃ y s2, te (ρ.set i (some d)) s' = .ok y s2 ∧ P y ∧ I (n' + 1) s2) →
    ∃ ys s2, lcGo (dName i) (fun _ => M.ok true) te ρ ds s = .ok ys s2 ∧ ys.length = ds.length ∧ (∀ y ∈ ys, P y) ∧ I (n + ds.length) s2
  | [], n, s, hi, _ => ⟨[], s, rfl, rfl, (fun _ h => by cases h), hi⟩
  | d :: ds, n, s, hi, h => by
    obtain ⟨y, s2, e, py, i2⟩ := h d List.mem_cons_self n s (Nat.le_refl _) (by simp) hi
    obtain ⟨ys, s3, e2, el, pys, i3⟩ := lcGo_pen (ds := ds) I P i2 fun x hx n' s' h1 h2 => h x (List.mem_cons_of_mem _ hx) n' s' (by omega) (by simp; omega)
    refine ⟨y :: ys, s3, ?_, by simp [el], ?_, ?_⟩
    · simp only [lcGo, M.bind, dName, M.ok] at e2 ⊢
      rw [e]
      simp only
      rw [e2]
    · intro z hz
      cases hz with
      | head => exact py
      | tail _ h => exact pys z h
    · have z : n + (d :: ds).length = n + 1 + ds.length := by simp; omega
      rw [z]
      exact i3
theorem toPyA_ints : ∀ ns : List Int, toPyA (ns.map D.int) = some (ns.map PyData.int)
  | [] => rfl
  | n :: ns => by
    rw [List.map_cons, List.map_cons]
    unfold toPyA
    rw [toPyA_ints ns]
    rfl
theorem asIs_ints : ∀ ns : List Int, asIs (ns.map D.int) = some ns
  | [] => rfl
  | n :: ns => by
    rw [List.map_cons]
    unfold asIs
    rw [asIs_ints ns]
    rfl
theorem asBs_bools {α : Type} (f : α → Bool) : ∀ ns : List α, asBs (ns.map fun x => D.bl (f x)) = some (ns.map f)
  | [] => rfl
  | n :: ns => by
    rw [List.map_cons]
    unfold asBs
    rw [asBs_bools f ns]
    rfl
theorem ne_nil (ns : List Int) (s : PenS) : dNe (.lst (ns.map D.int)) (.lst []) s = .ok (.bl (!ns.isEmpty)) s := by
  unfold dNe dEqG
  rw [show scalD (.lst (ns.map D.int)) (.lst []) = false from rfl]
  unfold eqP
  have e1 : toPy (.lst (ns.map D.int)) = some (.list (ns.map PyData.int)) := by unfold toPy; rw [toPyA_ints]; rfl
  have e2 : toPy (.lst []) = some (.list []) := rfl
  rw [e1, e2]
  simp only [shp_ints, shp_nil, Bool.and_true, chk, eqv_nil, M.ok, ng]
  cases ns <;> rfl
/-- a value equals itself -/
theorem dEq_self {d : D} {q : PyData} (h : toPy d = some q) (sh : SeqAt.shaped q = true) (n : scalD d d = false) (s : PenS) : dEq d d s = .ok (.bl true) s := by
  unfold dEq dEqG eqP
  rw [n, h]
  simp only [sh, Bool.and_true, chk, M.ok, ng]
  rw [SeqAt.eqv_refl q (SeqAt.canLay_of_shaped sh)]
theorem atI_nat' {α : Type} {xs : List α} {j : Nat} {x : α} (h : xs[j]? = some x) : atI xs (j : Int) = some x := by
  have hj : j < xs.length := by
    cases Nat.lt_or_ge j xs.length with
    | inl h' => exact h'
    | inr h' => rw [List.getElem?_eq_none h'] at h; cases h
  unfold atI ixN
  rw [if_pos (by omega), if_pos (by omega)]
  simpa using h
/-! ### the pen's numbers -/
def LIM : Nat := 1000000
structure Good (n : Nat) (s : PenS) : Prop where
  a0 : 0 ≤ s.at_
  a1 : s.at_ ≤ n
  l0 : 0 ≤ s.left
  c : s.cells.length ≤ 63
theorem Good.mono {n m : Nat} {s : PenS} (h : Good n s) (e : n ≤ m) : Good m s := ⟨h.a0, Int.le_trans h.a1 (by omega), h.l0, h.c⟩
theorem pw5 {c k a m : Int} (m0 : 0 < m) (m1 : m ≤ 4294967296) (k0 : 0 ≤ k) (k1 : k ≤ 1000000) (a0 : 0 ≤ a) (a1 : a ≤ 1000000) (j : Int) (j0 : 0 ≤ j) (j1 : j ≤ 1000000) : (c % m + k * a + j).natAbs < 2 ^ 64 := by
  have h1 := Int.emod_nonneg c (show m ≠ 0 by omega)
  have h2 := Int.emod_lt_of_pos c m0
  have h3 : k * a ≤ 1000000 * 1000000 := Int.mul_le_mul k1 a1 a0 (by omega)
  have h4 : 0 ≤ k * a := Int.mul_nonneg k0 a0
  omega
/-! ### readings applied -/
section
variable (a b c : En → M D) (l : En → M (List D)) (p q : En → M Bool) (x y : En → M Out) (f g : D → D → M D) (ρ : En) (s : PenS)
theorem ap_bind {α β : Type} (m : M α) (f : α → M β) : M.bind m f s = (match m s with | .ok a s' => f a s' | .er x ns ds s' => .er x ns ds s' | .bad => .bad) := id rfl
theorem ap_ok {α : Type} (a : α) : M.ok a s = .ok a s := id rfl
theorem ap_chk {α : Type} (m : M α) : chk true m s = m s := id rfl
theorem ap_chkF {α : Type} (m : M α) : chk false m s = .bad := id rfl
theorem ap_noEr {α : Type} (m : M α) : noEr m s = (match m s with | .ok a s' => .ok a s' | _ => .bad) := id rfl
theorem ap_seq : dSeq x y ρ s = M.bind (x ρ) (fun o => match o with | .nx ρ' => y ρ' | .rt d => M.ok (.rt d)) s := id rfl
theorem ap_ret : dRet a ρ s = M.bind (a ρ) (fun d => M.ok (.rt d)) s := id rfl
theorem ap_drop : dDrop a ρ s = M.bind (a ρ) (fun _ => M.ok (.nx ρ)) s := id rfl
theorem ap_ifS : dIfS p x y ρ s = M.bind (p ρ) (fun k => match k with | true => x ρ | false => y ρ) s := id rfl
theorem ap_asg (t : D → En → M En) : dAsg a t ρ s = M.bind (a ρ) (fun d => M.bind (t d ρ) fun ρ' => M.ok (.nx ρ')) s := id rfl
theorem ap_name (i : Nat) (d : D) : dName i d ρ s = .ok (ρ.set i (some d)) s := id rfl
theorem ap_gtup (n : Nat) (r : List D → En → M En) (ds : List D) : dGTup n r (.tup ds) ρ s = chk (decide (ds.length = n)) (r ds ρ) s := id rfl
theorem ap_gcons (t : D → En → M En) (r : List D → En → M En) (d : D) (ds : List D) : dGCons t r (d :: ds) ρ s = M.bind (t d ρ) (fun ρ' => r ds ρ') s := id rfl
theorem ap_gnil : dGNil [] ρ s = .ok ρ s := id rfl
theorem ap_var (i : Nat) : dVar i ρ s = (match ρ[i]? with | some (some d) => .ok d s | _ => .bad) := by
  unfold dVar
  cases ρ[i]? with
  | none => rfl
  | some o => cases o <;> rfl
theorem ap_op : dOp f a b ρ s = M.bind (a ρ) (fun x => M.bind (b ρ) fun y => f x y) s := id rfl
theorem ap_cons : dCons a l ρ s = M.bind (a ρ) (fun d => M.bind (l ρ) fun ds => M.ok (d :: ds)) s := id rfl
theorem ap_call (f : List D → M D) : dCall f l ρ s = M.bind (l ρ) f s := id rfl
theorem ap_callP (f : List D → M D) : dCallP f l ρ s = M.bind (l ρ) (fun ds => noEr (f ds)) s := id rfl
theorem ap_par (i j : Nat) : dPar i j l ρ s = M.bind (l ρ) (fun ds => match ds with | [x, y] => M.ok (.nx ((ρ.set i (some x)).set j (some y))) | _ => fun _ => .bad) s := id rfl
theorem ap_par3 (i j k : Nat) : dPar3 i j k l ρ s = M.bind (l ρ) (fun ds => match ds with | [x, y, z] => M.ok (.nx (((ρ.set i (some x)).set j (some y)).set k (some z))) | _ => fun _ => .bad) s := id rfl
theorem ap_set : dSet a b c ρ s = M.bind (a ρ) (fun v => M.bind (b ρ) fun x => M.bind (c ρ) fun k => M.bind (setD x k v) fun _ => M.ok (.nx ρ)) s := id rfl
theorem ap_set1 (n : Int) : setD .pen (.int 1) (.int n) s = .ok () { s with at_ := n } := id rfl
theorem ap_set2 (n : Int) : setD .pen (.int 2) (.int n) s = .ok () { s with left := n } := id rfl
theorem ap_pen0 : dIx .pen (.int 0) s = .ok (.lst (s.cells.map .int)) s := id rfl
theorem ap_pen1 : dIx .pen (.int 1) s = .ok (.int s.at_) s := id rfl
theorem ap_pen2 : dIx .pen (.int 2) s = .ok (.int s.left) s := id rfl
theorem ap_one (f : D → M D) (d : D) : bOne f [d] s = f d s := id rfl
theorem ap_test : dTest a ρ s = M.bind (a ρ) (asB M.ok) s := id rfl
theorem ap_asB {α : Type} (f : Bool → M α) (k : Bool) : asB f (.bl k) s = f k s := id rfl
theorem ap_asI {α : Type} (f : Int → M α) (k : Int) : asI f (.int k) s = f k s := id rfl
theorem ap_and : dAnd a b ρ s = M.bind (a ρ) (asB fun c => match c with | true => b ρ | false => M.ok (.bl false)) s := id rfl
theorem ap_or : dOr a b ρ s = M.bind (a ρ) (asB fun c => match c with | true => M.ok (.bl true) | false => b ρ) s := id rfl
theorem ap_not : dNot a ρ s = M.bind (a ρ) (asB fun c => M.ok (.bl (!c))) s := id rfl
theorem ap_tand : dTAnd p q ρ s = M.bind (p ρ) (fun c => match c with | true => q ρ | false => M.ok false) s := id rfl
theorem ap_tor : dTOr p q ρ s = M.bind (p ρ) (fun c => match c with | true => M.ok true | false => q ρ) s := id rfl
theorem ap_tnot : dTNot p ρ s = M.bind (p ρ) (fun c => M.ok (!c)) s := id rfl
theorem ap_tru : dTru a ρ s = M.bind (a ρ) truD s := id rfl
theorem ap_if : dIf p a b ρ s = M.bind (p ρ) (fun k => match k with | true => a ρ | false => b ρ) s := id rfl
theorem ap_chain : dChain f g a b c ρ s = M.bind (a ρ) (fun x => M.bind (b ρ) fun y => M.bind (f x y) (asB fun k => match k with | true => M.bind (c ρ) fun z => g y z | false => M.ok (.bl false))) s := id rfl
theorem ap_tup : dTup l ρ s = M.bind (l ρ) (fun ds => chk (decide (ds.length ≤ sizeLine)) (M.ok (.tup ds))) s := id rfl
theorem ap_lst : dLst l ρ s = M.bind (l ρ) (fun ds => chk (decide (ds.length ≤ sizeLine)) (M.ok (.lst ds))) s := id rfl
theorem ap_for (it : En → M (List D)) (t : D → En → M En) : dFor it t x ρ s = M.bind (it ρ) (fun ds => forGo t x ds ρ) s := id rfl
theorem ap_un (h : D → M D) : dUn h a ρ s = M.bind (a ρ) h s := id rfl
theorem ap_is1 (k : Kd) : dIs1 k a ρ s = M.bind (a ρ) (fun d => orBad (kdD d) fun z => M.ok (.bl (isB z k))) s := id rfl
theorem ap_it : dIt a ρ s = M.bind (a ρ) itemsD s := id rfl
theorem ap_sl (lo hi : En → M (Option Int)) : dSl a lo hi ρ s = M.bind (a ρ) (fun d => M.bind (lo ρ) fun lo => M.bind (hi ρ) fun hi => slD lo hi d) s := id rfl
theorem ap_part : dPart a ρ s = M.bind (a ρ) (asI fun i => M.ok (some i)) s := id rfl
theorem ap_rng1 {s' : PenS} (j : Int) (h : l ρ s = .ok [.int j] s') (h1 : 0 ≤ j) (h2 : j < 1000000) : dRng1 l ρ s = .ok ((List.range j.toNat).map fun i => .int (0 + (i : Nat))) s' := by
  unfold dRng1
  rw [ap_bind, h]
  simp only
  have e : absLe 4611686018427387903 j = true := absLe_iff.mpr ⟨by omega, by omega⟩
  rw [e]
  rfl
theorem ap_perm (pm : List Nat) : dPerm pm l ρ s = M.bind (l ρ) (fun ds => chk (decide (ds.length = pm.length)) (M.ok (permD pm ds))) s := id rfl
theorem ap_raise (n : Str) (fs : List Str) : dRaise n fs l ρ s = M.bind (l ρ) (fun ds => chk (decide (ds.length = fs.length)) fun s => .er n fs.reverse ds.reverse s) s := id rfl
theorem ap_lam (h : R D → R D) : dLam h a ρ s = (match h (a ρ s) with | .ok d s' => .ok d s' | _ => .bad) := id rfl
theorem ap_def (k n : Nat) (ds : List D) : defD k n x ds s = chk (decide (ds.length = k)) (bodyD n x ds) s := id rfl
theorem ap_body (n : Nat) (ds : List D) : bodyD n x ds s = M.bind (x (startD n ds)) (fun o => M.ok (outD o)) s := id rfl
theorem ap_orS {α β : Type} (v : α) (f : α → M β) : orBad (some v) f s = f v s := id rfl
/-- a comprehension over items, the pen let alone -/
theorem ap_lc {it : En → M (List D)} {i : Nat} {te : En → M D} {vs : List Nat} {ρ : En} {s : PenS} {ds : List D} (h : D → D) (hi : it ρ s = .ok ds s) (hl : ds.length ≤ sizeLine) (hd : ∀ d ∈ ds, te ((wipeD ρ vs).set i (some d)) s = .ok (h d) s) :
    dLc it (dName i) (fun _ => M.ok true) te vs ρ s = .ok (.lst (ds.map h)) s := by
  unfold dLc
  rw [ap_bind, hi]
  simp only
  rw [decide_eq_true hl, ap_chk, ap_bind, lcGo_name h hd]
  rfl
end
section
variable (s : PenS)
theorem ap_eqi (i j : Int) : dEq (.int i) (.int j) s = .ok (.bl (decide (i = j))) s := id rfl
theorem ap_nei (i j : Int) : dNe (.int i) (.int j) s = .ok (.bl (!decide (i = j))) s := id rfl
theorem ap_eqs (i j : Str) : dEq (.str i) (.str j) s = .ok (.bl (decide (i = j))) s := id rfl
theorem ap_nes (i j : Str) : dNe (.str i) (.str j) s = .ok (.bl (!decide (i = j))) s := id rfl
theorem ap_isb (i j : Bool) : dIs false (.bl i) (.bl j) s = .ok (.bl (decide (i = j))) s := id rfl
theorem ap_all {α : Type} (f : α → Bool) (ds : List α) : allD (.lst (ds.map fun x => .bl (f x))) s = .ok (.bl (ds.all f)) s := by
  show orBad (asBs _) _ s = _
  rw [asBs_bools f ds]
  show R.ok (D.bl ((ds.map f).all id)) s = _
  rw [List.all_map]
  rfl
theorem ap_any {α : Type} (f : α → Bool) (ds : List α) : anyD (.lst (ds.map fun x => .bl (f x))) s = .ok (.bl (ds.any f)) s := by
  show orBad (asBs _) _ s = _
  rw [asBs_bools f ds]
  show R.ok (D.bl ((ds.map f).any id)) s = _
  rw [List.any_map]
  rfl
theorem ap_sum (ns : List Int) : sumD (.lst (ns.map .int)) s = .ok (.int ns.sum) s := by
  show orBad (asIs _) _ s = _
  rw [asIs_ints ns]
  rfl
theorem ap_mul {i j : Int} (h : mulOk i j = true) : dMul (.int i) (.int j) s = .ok (.int (i * j)) s := by
  show chk (mulOk i j) _ s = _
  rw [h]
  rfl
theorem mulL {i j : Int} (h : -1000000000000000 ≤ i ∧ i ≤ 1000000000000000) : mulOk i j = true := by
  simp only [mulOk, Bool.or_eq_true, absLe_iff]
  exact .inl ⟨by omega, by omega⟩
theorem mulR {i j : Int} (h : -1000000000000000 ≤ j ∧ j ≤ 1000000000000000) : mulOk i j = true := by
  simp only [mulOk, Bool.or_eq_true, absLe_iff]
  exact .inr ⟨by omega, by omega⟩
theorem ap_ixl {ds : List D} {j : Nat} {d : D} (h : ds[j]? = some d) : dIx (.lst ds) (.int (j : Nat)) s = .ok d s := by
  show orBad (atI ds (j : Int)) M.ok s = _
  rw [atI_nat' h]
  rfl
theorem ap_ixt {ds : List D} {j : Nat} {d : D} (h : ds[j]? = some d) : dIx (.tup ds) (.int (j : Nat)) s = .ok d s := by
  show orBad (atI ds (j : Int)) M.ok s = _
  rw [atI_nat' h]
  rfl
end
section
variable (s : PenS)
theorem ap_div {i j : Int} (h0 : 0 < j) (h1 : j < 1073741824) : dDiv (.int i) (.int j) s = .ok (.int (i / j)) s := by
  show chk (decide (0 < j) && absLe 1073741823 j) _ s = _
  rw [decide_eq_true h0, absLe_iff.mpr ⟨by omega, by omega⟩]
  rfl
theorem ap_mod {i j : Int} (h0 : 0 < j) : dMod (.int i) (.int j) s = .ok (.int (i % j)) s := by
  show chk (decide (0 < j)) _ s = _
  rw [decide_eq_true h0]
  rfl
theorem ap_pow {i j : Int} (h0 : 0 ≤ j) (h1 : j ≤ 1000000) (h2 : i.natAbs < 2 ^ 64) : dPow (.int i) (.int j) s = .ok (.int (i ^ j.toNat)) s := by
  show chk (decide (0 ≤ j) && (decide (j ≤ 1000000) && decide (i.natAbs < 2 ^ 64))) _ s = _
  rw [decide_eq_true h0, decide_eq_true h1, decide_eq_true h2]
  rfl
theorem ix_mod {ns : List Int} {a : Int} (h : ns ≠ []) : ∃ c, dIx (.lst (ns.map .int)) (.int (a % ((ns.map D.int).length : Nat))) s = .ok (.int c) s := by
  have hl : 0 < ns.length := List.length_pos_iff.mpr h
  have h1 := Int.emod_nonneg a (show ((ns.length : Nat) : Int) ≠ 0 by omega)
  have h2 := Int.emod_lt_of_pos a (show (0 : Int) < (ns.length : Nat) by omega)
  rw [List.length_map]
  obtain ⟨j, hj⟩ : ∃ j : Nat, a % (ns.length : Nat) = (j : Nat) := ⟨(a % (ns.length : Nat)).toNat, by omega⟩
  rw [hj]
  have lt : j < ns.length := by omega
  exact ⟨ns[j], ap_ixl s (by simp [lt])⟩
end
/-- a loop, by what holds from turn to turn -/
theorem forGo_inv {g : D → En → M En} {b : En → M Out} (I : Nat → En → PenS → Prop) : ∀ (ds : List D) (n : Nat) (ρ : En) (s : PenS), I n ρ s →
    (∀ d ∈ ds, ∀ n' ρ s, n ≤ n' → n' < n + ds.length → I n' ρ s → ∃ ρ1 s1, M.bind (g d ρ) b s = .ok (.nx ρ1) s1 ∧ I (n' + 1) ρ1 s1) → ∃ ρ' s', forGo g b ds ρ s = .ok (.nx ρ') s' ∧ I (n + ds.length) ρ' s'
  | [], n, ρ, s, i, _ => ⟨ρ, s, rfl, i⟩
  | d :: ds, n, ρ, s, i, h => by
    obtain ⟨ρ1, s1, e, i1⟩ := h d List.mem_cons_self n ρ s (Nat.le_refl _) (by simp) i
    obtain ⟨ρ2, s2, e2, i2⟩ := forGo_inv I ds (n + 1) ρ1 s1 i1 fun x hx n' ρ s h1 h2 => h x (List.mem_cons_of_mem _ hx) n' ρ s (by omega) (by simp; omega)
    refine ⟨ρ2, s2, ?_, by rw [show n + (d :: ds).length = n + 1 + ds.length by simp; omega]; exact i2⟩
    show M.bind (g d ρ) (fun ρ1 => M.bind (b ρ1) fun o => match o with
      | .nx ρ2 => forGo g b ds ρ2
      | .rt d => M.ok (.rt d)) s = _
    unfold M.bind at e ⊢
    cases z : g d ρ s with
    | ok ρ0 s0 =>
      rw [z] at e
      simp only at e ⊢
      rw [e]
      exact e2
    | er _ _ _ _ => rw [z] at e; cases e
    | bad => rw [z] at e; cases e
end GW

/-! the pen's draw -/
namespace GW
open PySem L2
local macro_rules | `(tactic| walk_at "ev") => `(tactic| try simp only [ap_bind, ap_ok, ap_chk, ap_noEr, ap_seq, ap_ret, ap_drop, ap_ifS, ap_asg, ap_name, ap_gtup, ap_gcons, ap_gnil, ap_var, ap_op, ap_cons, ap_call, ap_callP, ap_par, ap_par3, ap_set, ap_set1, ap_set2, ap_pen0, ap_pen1, ap_pen2, ap_one, ap_test, ap_asB, ap_asI, ap_and, ap_or, ap_not, ap_tand, ap_tor, ap_tnot, ap_tru, ap_if, ap_chain, ap_tup, ap_lst, ap_un, ap_is1, ap_it, ap_sl, ap_part, ap_perm, ap_raise, ap_lam, ap_def, ap_body, ap_orS, ap_eqi, ap_nei, ap_eqs, ap_nes, ap_isb,
  startD, outD, wipeD, kdD, isB, dAdd, dSub, dOrd, dNeg, intD, absD, boolD, lenD, listD, tupleD, itemsD, truD, slD, permD,
  List.map_cons, List.map_nil, List.length_cons, List.length_nil, List.replicate_succ, List.replicate_zero, List.cons_append, List.nil_append, List.append_nil, List.getElem?_cons_zero, List.getElem?_cons_succ, List.getElem?_nil, List.set_cons_zero, List.set_cons_succ, List.reverse_cons, List.reverse_nil, Nat.reduceAdd, Nat.reduceSub, Nat.reduceEqDiff, Nat.reduceLeDiff, decide_true, decide_false, Bool.and_true, Bool.true_and, Bool.and_false, Bool.false_and, Bool.or_true, Bool.or_false, Bool.not_true, Bool.not_false])

local macro_rules | `(tactic| walk_at "dv") => `(tactic| (walk_at "ev"))
/-- what draws, its numbers open -/
def drawM (k j p1 p2 j2 c k2 p3 : Int) : En → M Out :=
  (dSeq (dIfS (dTest (dOp dGt (dOp dIx (dVar 0) (fun _ => M.ok (.int 2))) (fun _ => M.ok (.int 0)))) (dSeq (dAsg (dOp dIx (dVar 0) (fun _ => M.ok (.int 2))) (dName 2))
    (dSeq (dSet (dOp dDiv (dCall (bOne intD) (dCons (dVar 2) (fun _ => M.ok []))) (dVar 1)) (dVar 0) (fun _ => M.ok (.int 2)))
    (dRet (dOp dMod (dCall (bOne intD) (dCons (dVar 2) (fun _ => M.ok []))) (dVar 1))))) (fun ρ => M.ok (.nx ρ)))
    (dSeq (dAsg (dOp dIx (dVar 0) (fun _ => M.ok (.int 1))) (dName 3))
    (dSeq (dSet (dOp dAdd (dVar 3) (fun _ => M.ok (.int 1))) (dVar 0) (fun _ => M.ok (.int 1)))
    (dSeq (dAsg (dOp dAdd (dOp dMul (fun _ => M.ok (.int k)) (dVar 3)) (fun _ => M.ok (.int j))) (dName 4))
    (dSeq (dIfS (dTest (dOp dNe (dOp dIx (dVar 0) (fun _ => M.ok (.int 0))) (dLst (fun _ => M.ok [])))) (dAsg (dOp dIx (dOp dIx (dVar 0) (fun _ => M.ok (.int 0))) (dOp dMod (dCall (bOne intD) (dCons (dVar 3) (fun _ => M.ok []))) (dCall (bOne lenD) (dCons (dOp dIx (dVar 0) (fun _ => M.ok (.int 0))) (fun _ => M.ok []))))) (dName 4)) (fun ρ => M.ok (.nx ρ)))
    (dSeq (dIfS (dTAnd (dTest (dOp dLt (dVar 3) (dCall (bOne lenD) (dCons (dOp dIx (dVar 0) (fun _ => M.ok (.int 0))) (fun _ => M.ok []))))) (dTest (dOp dGe (dCall (bOne absD) (dCons (dVar 4) (fun _ => M.ok []))) (dOp dPow (fun _ => M.ok (.int 10)) (fun _ => M.ok (.int 18)))))) (dSeq (dAsg (dOp dAdd (dOp dMul (fun _ => M.ok (.int 2)) (dOp dSub (dCall (bOne absD) (dCons (dVar 4) (fun _ => M.ok []))) (dOp dPow (fun _ => M.ok (.int 10)) (fun _ => M.ok (.int 18))))) (dCall (bOne intD) (dCons (dOp dLt (dVar 4) (fun _ => M.ok (.int 0))) (fun _ => M.ok [])))) (dName 2))
    (dSeq (dSet (dOp dDiv (dCall (bOne intD) (dCons (dVar 2) (fun _ => M.ok []))) (dVar 1)) (dVar 0) (fun _ => M.ok (.int 2)))
    (dRet (dOp dMod (dCall (bOne intD) (dCons (dVar 2) (fun _ => M.ok []))) (dVar 1))))) (fun ρ => M.ok (.nx ρ)))
    (dSeq (dAsg (dOp dMod (dCall (bOne intD) (dCons (dOp dPow (dOp dAdd (dOp dAdd (dOp dMod (dCall (bOne intD) (dCons (dVar 4) (fun _ => M.ok []))) (fun _ => M.ok (.int p1))) (dOp dMul (fun _ => M.ok (.int k)) (dVar 3))) (fun _ => M.ok (.int j))) (fun _ => M.ok (.int 5))) (fun _ => M.ok []))) (fun _ => M.ok (.int p2))) (dName 5))
    (dSeq (dAsg (dOp dMod (dCall (bOne intD) (dCons (dOp dPow (dOp dAdd (dOp dAdd (dOp dMul (dVar 5) (dOp dAdd (dOp dMul (fun _ => M.ok (.int 2)) (dVar 3)) (fun _ => M.ok (.int j2)))) (dOp dMul (dOp dMul (fun _ => M.ok (.int c)) (dVar 3)) (dVar 3))) (fun _ => M.ok (.int k2))) (fun _ => M.ok (.int 3))) (fun _ => M.ok []))) (fun _ => M.ok (.int p3))) (dName 5))
    (dRet (dOp dMod (dCall (bOne intD) (dCons (dOp dDiv (dVar 5) (fun _ => M.ok (.int 64))) (fun _ => M.ok []))) (dVar 1)))))))))))

theorem pw3 {x j2 c k2 a : Int} (h0 : 0 ≤ x) (h1 : x < 4294967296) (a0 : 0 ≤ a) (a1 : a ≤ 1000000) (j0 : 0 ≤ j2) (j1 : j2 ≤ 100000) (c0 : 0 ≤ c) (c1 : c ≤ 100000) (k0 : 0 ≤ k2) (k1 : k2 ≤ 100000) : (x * (2 * a + j2) + c * a * a + k2).natAbs < 2 ^ 64 := by
  have e1 : x * (2 * a + j2) ≤ 4294967296 * 2100000 := Int.mul_le_mul (by omega) (by omega) (by omega) (by omega)
  have e2 : 0 ≤ x * (2 * a + j2) := Int.mul_nonneg h0 (by omega)
  have e3 : c * a ≤ 100000 * 1000000 := Int.mul_le_mul c1 a1 a0 (by omega)
  have e4 : 0 ≤ c * a := Int.mul_nonneg c0 a0
  have e5 : c * a * a ≤ 100000 * 1000000 * 1000000 := Int.mul_le_mul e3 a1 a0 (by omega)
  have e6 : 0 ≤ c * a * a := Int.mul_nonneg e4 a0
  omega
structure Nums (k j p1 p2 j2 c k2 p3 : Int) : Prop where
  k : 0 ≤ k ∧ k ≤ 100000
  j : 0 ≤ j ∧ j ≤ 100000
  p1 : 0 < p1 ∧ p1 ≤ 4294967296
  p2 : 0 < p2 ∧ p2 ≤ 4294967296
  j2 : 0 ≤ j2 ∧ j2 ≤ 100000
  c : 0 ≤ c ∧ c ≤ 100000
  k2 : 0 ≤ k2 ∧ k2 ≤ 100000
  p3 : 0 < p3
section
variable {k j p1 p2 j2 c k2 p3 : Int}
theorem draw_ok (N : Nums k j p1 p2 j2 c k2 p3) {n : Nat} {m : Int} {s : PenS} (g : Good n s) (hn : n + 1 ≤ LIM) (m0 : 0 < m) (m1 : m < 1073741824) : ∃ r s', defD 2 6 (drawM k j p1 p2 j2 c k2 p3) [.pen, .int m] s = .ok (.int r) s' ∧ 0 ≤ r ∧ r < m ∧ Good (n + 1) s' := by
  obtain ⟨cells, at_, left⟩ := s
  obtain ⟨a0, a1, l0, hc⟩ := g
  have hL : (n : Int) + 1 ≤ 1000000 := by unfold LIM at hn; omega
  simp only at a0 a1 l0 hc
  obtain ⟨⟨nk0, nk1⟩, ⟨nj0, nj1⟩, ⟨np0, np1⟩, ⟨nq0, nq1⟩, ⟨ni0, ni1⟩, ⟨nc0, nc1⟩, ⟨nl0, nl1⟩, nr⟩ := N
  unfold drawM
  walk_at "ev"
  by_cases h : 0 < left
  · simp only [h, decide_true]
    walk_at "ev"
    simp only [ap_div _ m0 m1, ap_mod _ m0]
    walk_at "ev"
    simp only [ap_mod _ m0]
    exact ⟨_, _, rfl, Int.emod_nonneg _ (by omega), Int.emod_lt_of_pos _ m0, a0, by simp only; omega, Int.ediv_nonneg l0 (by omega), hc⟩
  · simp only [h, decide_false]
    walk_at "ev"
    have e1 : mulOk k at_ = true := mulL ⟨by omega, by omega⟩
    simp only [ap_mul _ e1]
    walk_at "ev"
    have z0 : decide (0 ≤ sizeLine) = true := rfl
    simp only [z0, ap_chk, ap_ok, ne_nil, ap_asB]
    have le : left = 0 := by omega
    -- the cell
    have key : ∀ v : Int, ∃ r s', (M.bind (dSeq (dIfS (dTAnd (dTest (dOp dLt (dVar 3) (dCall (bOne lenD) (dCons (dOp dIx (dVar 0) (fun _ => M.ok (.int 0))) (fun _ => M.ok []))))) (dTest (dOp dGe (dCall (bOne absD) (dCons (dVar 4) (fun _ => M.ok []))) (dOp dPow (fun _ => M.ok (.int 10)) (fun _ => M.ok (.int 18)))))) (dSeq (dAsg (dOp dAdd (dOp dMul (fun _ => M.ok (.int 2)) (dOp dSub (dCall (bOne absD) (dCons (dVar 4) (fun _ => M.ok []))) (dOp dPow (fun _ => M.ok (.int 10)) (fun _ => M.ok (.int 18))))) (dCall (bOne intD) (dCons (dOp dLt (dVar 4) (fun _ => M.ok (.int 0))) (fun _ => M.ok [])))) (dName 2))
    (dSeq (dSet (dOp dDiv (dCall (bOne intD) (dCons (dVar 2) (fun _ => M.ok []))) (dVar 1)) (dVar 0) (fun _ => M.ok (.int 2)))
    (dRet (dOp dMod (dCall (bOne intD) (dCons (dVar 2) (fun _ => M.ok []))) (dVar 1))))) (fun ρ => M.ok (.nx ρ))) (dSeq (dAsg (dOp dMod (dCall (bOne intD) (dCons (dOp dPow (dOp dAdd (dOp dAdd (dOp dMod (dCall (bOne intD) (dCons (dVar 4) (fun _ => M.ok []))) (fun _ => M.ok (.int p1))) (dOp dMul (fun _ => M.ok (.int k)) (dVar 3))) (fun _ => M.ok (.int j))) (fun _ => M.ok (.int 5))) (fun _ => M.ok []))) (fun _ => M.ok (.int p2))) (dName 5))
    (dSeq (dAsg (dOp dMod (dCall (bOne intD) (dCons (dOp dPow (dOp dAdd (dOp dAdd (dOp dMul (dVar 5) (dOp dAdd (dOp dMul (fun _ => M.ok (.int 2)) (dVar 3)) (fun _ => M.ok (.int j2)))) (dOp dMul (dOp dMul (fun _ => M.ok (.int c)) (dVar 3)) (dVar 3))) (fun _ => M.ok (.int k2))) (fun _ => M.ok (.int 3))) (fun _ => M.ok []))) (fun _ => M.ok (.int p3))) (dName 5))
    (dRet (dOp dMod (dCall (bOne intD) (dCons (dOp dDiv (dVar 5) (fun _ => M.ok (.int 64))) (fun _ => M.ok []))) (dVar 1))))) [some .pen, some (.int m), none, some (.int at_), some (.int v), none]) (fun o => M.ok (outD o)) ⟨cells, at_ + 1, left⟩) = .ok (.int r) s' ∧ 0 ≤ r ∧ r < m ∧ Good (n + 1) s' := by
      intro v
      walk_at "ev"
      have e10 : ∀ s, dPow (.int 10) (.int 18) s = .ok (.int 1000000000000000000) s := fun s => by kernel_rfl
      have fin : ∃ r s', (M.bind ((dSeq (dAsg (dOp dMod (dCall (bOne intD) (dCons (dOp dPow (dOp dAdd (dOp dAdd (dOp dMod (dCall (bOne intD) (dCons (dVar 4) (fun _ => M.ok []))) (fun _ => M.ok (.int p1))) (dOp dMul (fun _ => M.ok (.int k)) (dVar 3))) (fun _ => M.ok (.int j))) (fun _ => M.ok (.int 5))) (fun _ => M.ok []))) (fun _ => M.ok (.int p2))) (dName 5))
    (dSeq (dAsg (dOp dMod (dCall (bOne intD) (dCons (dOp dPow (dOp dAdd (dOp dAdd (dOp dMul (dVar 5) (dOp dAdd (dOp dMul (fun _ => M.ok (.int 2)) (dVar 3)) (fun _ => M.ok (.int j2)))) (dOp dMul (dOp dMul (fun _ => M.ok (.int c)) (dVar 3)) (dVar 3))) (fun _ => M.ok (.int k2))) (fun _ => M.ok (.int 3))) (fun _ => M.ok []))) (fun _ => M.ok (.int p3))) (dName 5))
    (dRet (dOp dMod (dCall (bOne intD) (dCons (dOp dDiv (dVar 5) (fun _ => M.ok (.int 64))) (fun _ => M.ok []))) (dVar 1))))) [some .pen, some (.int m), none, some (.int at_), some (.int v), none]) (fun o => M.ok (outD o)) ⟨cells, at_ + 1, left⟩) = .ok (.int r) s' ∧ 0 ≤ r ∧ r < m ∧ Good (n + 1) s' := by
        have h1 := Int.emod_nonneg v (show p1 ≠ 0 by omega)
        walk_at "ev"
        simp only [ap_mod _ np0, ap_mul _ e1]
        walk_at "ev"
        simp only [ap_pow _ (show (0 : Int) ≤ 5 by omega) (show (5 : Int) ≤ 1000000 by omega) (pw5 np0 np1 nk0 (show k ≤ 1000000 by omega) a0 (show at_ ≤ 1000000 by omega) j nj0 (show j ≤ 1000000 by omega) (c := v))]
        walk_at "ev"
        simp only [ap_mod _ nq0]
        walk_at "ev"
        generalize hx : (v % p1 + k * at_ + j) ^ Int.toNat 5 % p2 = x
        have x0 : 0 ≤ x := hx ▸ Int.emod_nonneg _ (by omega)
        have x1 : x < 4294967296 := by
          have := hx ▸ Int.emod_lt_of_pos ((v % p1 + k * at_ + j) ^ Int.toNat 5) nq0
          omega
        have y1 : mulOk 2 at_ = true := mulL ⟨by omega, by omega⟩
        have y2 : mulOk x (2 * at_ + j2) = true := mulL ⟨by omega, by omega⟩
        have y3 : mulOk c at_ = true := mulL ⟨by omega, by omega⟩
        have y4 : mulOk (c * at_) at_ = true := mulR ⟨by omega, by omega⟩
        simp only [ap_mul _ y1]
        walk_at "ev"
        simp only [ap_mul _ y2, ap_mul _ y3]
        walk_at "ev"
        simp only [ap_mul _ y4]
        walk_at "ev"
        simp only [ap_pow _ (show (0 : Int) ≤ 3 by omega) (show (3 : Int) ≤ 1000000 by omega) (pw3 x0 x1 a0 (show at_ ≤ 1000000 by omega) ni0 ni1 nc0 nc1 nl0 nl1)]
        walk_at "ev"
        simp only [ap_mod _ nr]
        walk_at "ev"
        simp only [ap_div _ (show (0 : Int) < 64 by omega) (show (64 : Int) < 1073741824 by omega)]
        walk_at "ev"
        simp only [ap_mod _ m0]
        exact ⟨_, _, rfl, Int.emod_nonneg _ (by omega), Int.emod_lt_of_pos _ m0, by simp only; omega, by simp only; omega, l0, hc⟩
      cases q1 : decide (at_ < ((cells.map D.int).length : Nat)) with
      | false =>
        simp only [q1]
        exact fin
      | true =>
        simp only [q1]
        walk_at "ev"
        simp only [e10]
        walk_at "ev"
        cases q2 : decide (1000000000000000000 ≤ (if v < 0 then -v else v)) with
        | false =>
          simp only [q2]
          exact fin
        | true =>
          simp only [q2]
          have q3 : 1000000000000000000 ≤ (if v < 0 then -v else v) := of_decide_eq_true q2
          have y1 : ∀ z, mulOk 2 z = true := fun z => mulL ⟨by omega, by omega⟩
          walk_at "ev"
          simp only [e10]
          walk_at "ev"
          simp only [ap_mul _ (y1 _)]
          walk_at "ev"
          simp only [ap_div _ m0 m1, ap_mod _ m0]
          walk_at "ev"
          simp only [ap_mod _ m0]
          refine ⟨_, _, rfl, Int.emod_nonneg _ (by omega), Int.emod_lt_of_pos _ m0, by simp only; omega, by simp only; omega, Int.ediv_nonneg ?_ (by omega), hc⟩
          split at q3 <;> split <;> omega
    by_cases hn0 : cells = []
    · subst hn0
      exact key _
    · have e2 : (!cells.isEmpty) = true := by cases cells <;> first | rfl | exact absurd rfl hn0
      simp only [e2]
      obtain ⟨cv, hcv⟩ := ix_mod ⟨cells, at_ + 1, left⟩ (a := at_) hn0
      have hl : (0 : Int) < (((cells.map D.int).length : Nat) : Int) := by
        have := List.length_pos_iff.mpr hn0
        rw [List.length_map]
        omega
      have ea : dAsg (dOp dIx (dOp dIx (dVar 0) (fun _ => M.ok (.int 0))) (dOp dMod (dCall (bOne intD) (dCons (dVar 3) (fun _ => M.ok []))) (dCall (bOne lenD) (dCons (dOp dIx (dVar 0) (fun _ => M.ok (.int 0))) (fun _ => M.ok []))))) (dName 4) [some .pen, some (.int m), none, some (.int at_), some (.int (k * at_ + j)), none] ⟨cells, at_ + 1, left⟩ = .ok (.nx [some .pen, some (.int m), none, some (.int at_), some (.int cv), none]) ⟨cells, at_ + 1, left⟩ := by
        walk_at "ev"
        simp only [ap_mod _ hl, hcv]
        walk_at "ev"
      rw [ea]
      exact key cv
end
/-- a comprehension whose items draw -/
theorem ap_lcP {it : En → M (List D)} {i : Nat} {te : En → M D} {vs : List Nat} {ρ : En} {s s0 : PenS} {ds : List D} (n c N : Nat) (P : D → Prop) (hi : it ρ s = .ok ds s0) (hl : ds.length ≤ sizeLine) (g : Good n s0) (hN : n + c * ds.length ≤ N)
    (hd : ∀ d ∈ ds, ∀ n' s', Good n' s' → n' + c ≤ N → ∃ y s2, te ((wipeD ρ vs).set i (some d)) s' = .ok y s2 ∧ P y ∧ Good (n' + c) s2) :
    ∃ ys s2, dLc it (dName i) (fun _ => M.ok true) te vs ρ s = .ok (.lst ys) s2 ∧ ys.length = ds.length ∧ (∀ y ∈ ys, P y) ∧ Good (n + c * ds.length) s2 := by
  obtain ⟨ys, s2, e, el, py, g2⟩ := lcGo_pen (i := i) (te := te) (ρ := wipeD ρ vs) (fun k s => Good (n + c * k) s) P (ds := ds) (n := 0) (s := s0) (by simpa using g) (fun d hx n' s' _ h2 g' => by
    have hb : n + c * n' + c ≤ N := by
      have : c * (n' + 1) ≤ c * ds.length := Nat.mul_le_mul_left c (by omega)
      rw [Nat.mul_add, Nat.mul_one] at this
      omega
    obtain ⟨y, s2, e, p, g2⟩ := hd d hx _ s' g' hb
    exact ⟨y, s2, e, p, by rw [Nat.mul_add, Nat.mul_one, ← Nat.add_assoc]; exact g2⟩)
  refine ⟨ys, s2, ?_, el, py, by simpa using g2⟩
  unfold dLc
  rw [ap_bind, hi]
  simp only
  rw [decide_eq_true hl, ap_chk, ap_bind, e]
  rfl
theorem ap_chkL {α : Type} {n : Nat} (h : n ≤ 1000) (m : M α) (s : PenS) : chk (decide (n ≤ sizeLine)) m s = m s := by
  rw [decide_eq_true (line1000 h)]
  rfl
theorem ap_str {i : Int} (h : i.natAbs < 100000000000000000000000000000000000000000000) (s : PenS) : strD (.int i) s = .ok (.str (toString i)) s := by
  show chk (decide (i.natAbs.log2 < 1920)) _ s = _
  have : i.natAbs.log2 < 1920 := by
    by_cases z : i.natAbs = 0
    · rw [z]; decide
    · exact Nat.lt_of_lt_of_le ((Nat.log2_lt z).mpr (Nat.lt_of_lt_of_le h (show 100000000000000000000000000000000000000000000 ≤ 2 ^ 200 by decide))) (by decide)
  rw [decide_eq_true this]
  rfl
theorem cut_le (ds : List D) (lo hi : Option Int) : (cutD ds lo hi).length ≤ ds.length := by
  unfold cutD
  rw [List.length_take, List.length_drop]
  omega
theorem cut_mem {ds : List D} {lo hi : Option Int} {x : D} (h : x ∈ cutD ds lo hi) : x ∈ ds := List.mem_of_mem_drop (List.mem_of_mem_take h)
theorem ap_mult {a : List D} {j : Int} (ha : a.length ≤ 1) (j0 : 0 ≤ j) (j1 : j ≤ 8) (s : PenS) : ∃ X, dMul (.tup a) (.int j) s = .ok (.tup X) s ∧ X.length ≤ 8 ∧ ∀ x ∈ X, x ∈ a := by
  have e : (decide (-1000 ≤ j) && (decide (j ≤ 1000) && decide (a.length ≤ 1000))) = true := by simp; omega
  refine ⟨if a = [] ∨ j = 1 then a else (List.replicate j.toNat a).flatten, ?_, ?_, ?_⟩
  · show chk (decide (-1000 ≤ j) && (decide (j ≤ 1000) && decide (a.length ≤ 1000))) _ s = _
    rw [e]
    rfl
  · split
    · omega
    · rw [List.length_flatten, List.map_replicate, List.sum_replicate_nat]
      have : j.toNat * a.length ≤ 8 * 1 := Nat.mul_le_mul (by omega) ha
      omega
  · intro x hx
    split at hx
    · exact hx
    · obtain ⟨l, hl, hx⟩ := List.mem_flatten.mp hx
      rw [(List.mem_replicate.mp hl).2] at hx
      exact hx
/-! ### lists of a written length -/
def rngD : List D → M (List D) := fun ds => match ds with
  | [.int j] => chk (absLe 4611686018427387903 j) (M.ok ((List.range j.toNat).map fun i => .int (0 + (i : Nat))))
  | _ => fun _ => .bad
section
variable (a b c d e f : D) (r : List D) (s : PenS)
theorem ap_rng (l : En → M (List D)) (ρ : En) : dRng1 l ρ s = M.bind (l ρ) rngD s := id rfl
theorem rng_1 : rngD [.int 1] s = .ok [.int 0] s := id rfl
theorem rng_2 : rngD [.int 2] s = .ok [.int 0, .int 1] s := id rfl
theorem rng_3 : rngD [.int 3] s = .ok [.int 0, .int 1, .int 2] s := id rfl
theorem rng_6 : rngD [.int 6] s = .ok [.int 0, .int 1, .int 2, .int 3, .int 4, .int 5] s := id rfl
theorem ap_lc0 (it : En → M (List D)) (g : D → En → M En) (tt : En → M Bool) (te : En → M D) (vs : List Nat) (ρ : En) : dLc it g tt te vs ρ s = M.bind (it ρ) (fun ds => chk (decide (ds.length ≤ sizeLine)) (M.bind (lcGo g tt te (wipeD ρ vs) ds) fun ys => M.ok (.lst ys))) s := id rfl
theorem ap_go0 (g : D → En → M En) (tt : En → M Bool) (te : En → M D) (ρ : En) : lcGo g tt te ρ [] s = .ok [] s := id rfl
theorem ap_go1 (g : D → En → M En) (tt : En → M Bool) (te : En → M D) (ρ : En) : lcGo g tt te ρ (a :: r) s = M.bind (g a ρ) (fun ρ1 => M.bind (tt ρ1) fun b => match b with
    | true => M.bind (te ρ1) fun y => M.bind (lcGo g tt te ρ r) fun ys => M.ok (y :: ys)
    | false => lcGo g tt te ρ r) s := id rfl
theorem ixt0 : dIx (.tup (a :: r)) (.int 0) s = .ok a s := ap_ixt (j := 0) s rfl
theorem ixt1 : dIx (.tup (a :: b :: r)) (.int 1) s = .ok b s := ap_ixt (j := 1) s rfl
theorem ixt2 : dIx (.tup (a :: b :: c :: r)) (.int 2) s = .ok c s := ap_ixt (j := 2) s rfl
theorem ixt3 : dIx (.tup (a :: b :: c :: d :: r)) (.int 3) s = .ok d s := ap_ixt (j := 3) s rfl
theorem ixt4 : dIx (.tup (a :: b :: c :: d :: e :: r)) (.int 4) s = .ok e s := ap_ixt (j := 4) s rfl
theorem ixt5 : dIx (.tup (a :: b :: c :: d :: e :: f :: r)) (.int 5) s = .ok f s := ap_ixt (j := 5) s rfl
theorem ixl0 : dIx (.lst (a :: r)) (.int 0) s = .ok a s := ap_ixl (j := 0) s rfl
theorem ixl1 : dIx (.lst (a :: b :: r)) (.int 1) s = .ok b s := ap_ixl (j := 1) s rfl
theorem ixl2 : dIx (.lst (a :: b :: c :: r)) (.int 2) s = .ok c s := ap_ixl (j := 2) s rfl
theorem ixl3 : dIx (.lst (a :: b :: c :: d :: r)) (.int 3) s = .ok d s := ap_ixl (j := 3) s rfl
theorem ixl4 : dIx (.lst (a :: b :: c :: d :: e :: r)) (.int 4) s = .ok e s := ap_ixl (j := 4) s rfl
theorem ixl5 : dIx (.lst (a :: b :: c :: d :: e :: f :: r)) (.int 5) s = .ok f s := ap_ixl (j := 5) s rfl
theorem ap_zip2 (l : En → M (List D)) (ρ : En) : dZip l ρ s = M.bind (l ρ) (fun ds => match ds with | [.lst xs, .lst ys] => M.ok (zipD xs ys) | [.tup xs, .tup ys] => M.ok (zipD xs ys) | _ => fun _ => .bad) s := id rfl
theorem ap_enum (l : En → M (List D)) (ρ : En) : dEnum l ρ s = M.bind (l ρ) (fun ds => match ds with | [.lst xs] => M.ok (enumD 0 xs) | _ => fun _ => .bad) s := id rfl
theorem enum1 : enumD 0 [a] = [.tup [.int 0, a]] := id rfl
theorem enum2 : enumD 0 [a, b] = [.tup [.int 0, a], .tup [.int 1, b]] := id rfl
theorem enum3 : enumD 0 [a, b, c] = [.tup [.int 0, a], .tup [.int 1, b], .tup [.int 2, c]] := id rfl
theorem zip1 (a b : D) : zipD [a] [b] = [.tup [a, b]] := id rfl
theorem zip2 (a b c d : D) : zipD [a, b] [c, d] = [.tup [a, c], .tup [b, d]] := id rfl
theorem zip3 (a b c d e f : D) : zipD [a, b, c] [d, e, f] = [.tup [a, d], .tup [b, e], .tup [c, f]] := id rfl
theorem zip6 (a b c d e f a' b' c' d' e' f' : D) : zipD [a, b, c, d, e, f] [a', b', c', d', e', f'] = [.tup [a, a'], .tup [b, b'], .tup [c, c'], .tup [d, d'], .tup [e, e'], .tup [f, f']] := id rfl
theorem sum1 (a : Int) : sumD (.lst [.int a]) s = .ok (.int a) s := by rw [show ([D.int a] : List D) = [a].map .int from rfl, ap_sum]; simp
theorem sum2 (a b : Int) : sumD (.lst [.int a, .int b]) s = .ok (.int (a + b)) s := by rw [show ([D.int a, .int b] : List D) = [a, b].map .int from rfl, ap_sum]; simp
theorem sum3 (a b c : Int) : sumD (.lst [.int a, .int b, .int c]) s = .ok (.int (a + b + c)) s := by rw [show ([D.int a, .int b, .int c] : List D) = [a, b, c].map .int from rfl, ap_sum]; simp [Int.add_assoc]
theorem sum6 (a b c d e f : Int) : sumD (.lst [.int a, .int b, .int c, .int d, .int e, .int f]) s = .ok (.int (a + b + c + d + e + f)) s := by rw [show ([D.int a, .int b, .int c, .int d, .int e, .int f] : List D) = [a, b, c, d, e, f].map .int from rfl, ap_sum]; simp [Int.add_assoc]
end
theorem toPy_ints (ns : List Int) : toPy (.tup (ns.map .int)) = some (.tuple (ns.map .int)) := by unfold toPy; rw [toPyA_ints]; rfl
theorem ne_ints (ns : List Int) (s : PenS) : dNe (.tup (ns.map .int)) (.tup (ns.map .int)) s = .ok (.bl false) s := by
  unfold dNe dEqG eqP
  rw [show scalD (.tup (ns.map D.int)) (.tup (ns.map D.int)) = false from rfl, toPy_ints]
  have sh : SeqAt.shaped (.tuple (ns.map PyData.int)) = true := shp_tup (lay_ints ns) (by rw [dep_ints]; omega)
  simp only [sh, Bool.and_true, chk, M.ok, ng]
  rw [SeqAt.eqv_refl _ (SeqAt.canLay_of_shaped sh)]
  rfl
theorem nc0 : ((0 : Nat) : Int) = 0 := id rfl
theorem nc1 : ((1 : Nat) : Int) = 1 := id rfl
theorem nc2 : ((2 : Nat) : Int) = 2 := id rfl
theorem nc3 : ((3 : Nat) : Int) = 3 := id rfl
theorem nc6 : ((6 : Nat) : Int) = 6 := id rfl
theorem ap_inI (neg : Bool) (kvs : List (Int × PyData)) (b : En → M D) (ρ : En) (s : PenS) : dInI neg kvs b ρ s = M.bind (b ρ) (asI fun i => M.ok (.bl (ng neg (kgI kvs i).isSome))) s := id rfl
theorem ap_ixI (kvs : List (Int × PyData)) (b : En → M D) (ρ : En) (s : PenS) : dIxI kvs b ρ s = M.bind (b ρ) (asI fun i => orBad (kgI kvs i) fun q => M.ok (ofPy q)) s := id rfl
end GW

namespace GW
section
open PySem PyProof.Rows L2
def tf : List He.Defn := [("_law_refused", none)]
def tabs (K : PySem.W.Frag) : List (Addr × Str) := [((He.cT K ("_law_refused", none)).2, ("_law_refused" ++ ".<locals>." : Str) ++ "<lambda>")]
structure EF (K : PySem.W.Frag) : Prop where
  e_BadDimension : ErrC K (He.ga K "BadDimension")
  n_BadDimension : ∀ f ∈ (["value"] : List Str), PySem.W.findIn K (.ref (He.ga K "BadDimension")) f = some none
  i_BadDimension_BadDimension : PySem.W.kitOne K (.ref (He.ga K "BadDimension")) (.ref (He.ga K "BadDimension")) = some true
  i_BadDimension_BadName : PySem.W.kitOne K (.ref (He.ga K "BadDimension")) (.ref (He.ga K "BadName")) = some false
  i_BadDimension_BadNumber : PySem.W.kitOne K (.ref (He.ga K "BadDimension")) (.ref (He.ga K "BadNumber")) = some false
  m_BadDimension_GiveError : PySem.W.exmOne K (.ref (He.ga K "BadDimension")) (.ref (He.ga K "GiveError")) = some true
  i_BadDimension_NoTie : PySem.W.kitOne K (.ref (He.ga K "BadDimension")) (.ref (He.ga K "NoTie")) = some false
  i_BadDimension_TooMany : PySem.W.kitOne K (.ref (He.ga K "BadDimension")) (.ref (He.ga K "TooMany")) = some false
  e_BadName : ErrC K (He.ga K "BadName")
  n_BadName : ∀ f ∈ (["value"] : List Str), PySem.W.findIn K (.ref (He.ga K "BadName")) f = some none
  i_BadName_BadDimension : PySem.W.kitOne K (.ref (He.ga K "BadName")) (.ref (He.ga K "BadDimension")) = some false
  i_BadName_BadName : PySem.W.kitOne K (.ref (He.ga K "BadName")) (.ref (He.ga K "BadName")) = some true
  i_BadName_BadNumber : PySem.W.kitOne K (.ref (He.ga K "BadName")) (.ref (He.ga K "BadNumber")) = some false
  m_BadName_GiveError : PySem.W.exmOne K (.ref (He.ga K "BadName")) (.ref (He.ga K "GiveError")) = some true
  i_BadName_NoTie : PySem.W.kitOne K (.ref (He.ga K "BadName")) (.ref (He.ga K "NoTie")) = some false
  i_BadName_TooMany : PySem.W.kitOne K (.ref (He.ga K "BadName")) (.ref (He.ga K "TooMany")) = some false
  e_BadNumber : ErrC K (He.ga K "BadNumber")
  n_BadNumber : ∀ f ∈ (["part"] : List Str), PySem.W.findIn K (.ref (He.ga K "BadNumber")) f = some none
  i_BadNumber_BadDimension : PySem.W.kitOne K (.ref (He.ga K "BadNumber")) (.ref (He.ga K "BadDimension")) = some false
  i_BadNumber_BadName : PySem.W.kitOne K (.ref (He.ga K "BadNumber")) (.ref (He.ga K "BadName")) = some false
  i_BadNumber_BadNumber : PySem.W.kitOne K (.ref (He.ga K "BadNumber")) (.ref (He.ga K "BadNumber")) = some true
  m_BadNumber_GiveError : PySem.W.exmOne K (.ref (He.ga K "BadNumber")) (.ref (He.ga K "GiveError")) = some true
  i_BadNumber_NoTie : PySem.W.kitOne K (.ref (He.ga K "BadNumber")) (.ref (He.ga K "NoTie")) = some false
  i_BadNumber_TooMany : PySem.W.kitOne K (.ref (He.ga K "BadNumber")) (.ref (He.ga K "TooMany")) = some false
  k_KINDS : kdp K (.tuple [(.str "hinge"), (.str "rod"), (.str "weld")]) (.ref (He.ga K "KINDS")) = true
  k_WIDTHS : kdI K (He.ga K "WIDTHS") [(1, (.int 1)), (3, (.int 2)), (6, (.int 3))] = true
  s_WIDTHS : (kdI K (He.ga K "WIDTHS") [(1, (.int 1)), (3, (.int 2)), (6, (.int 3))] && !(He.ga K "WIDTHS" == sysModules)) = true

end
end GW
namespace GW
section
open PySem L2
def m_is_integer : En → M Out :=
  (dRet (dAnd (dIs1 .int (dVar 0)) (dNot (dIs1 .bl (dVar 0)))))
def f_is_integer : List D → M D := defD 1 1 m_is_integer
def sp_is_integer (K : PySem.W.Frag) : Sp := spP K (tabs K) f_is_integer
def m_kinds_in : En → M Out :=
  (dRet (dIf (dTest (dOp dGt (dVar 0) (fun _ => M.ok (.int 1)))) (fun _ => M.ok (ofPy (.tuple [(.str "hinge"), (.str "rod"), (.str "weld")]))) (dSl (fun _ => M.ok (ofPy (.tuple [(.str "hinge"), (.str "rod"), (.str "weld")]))) (dPart (fun _ => M.ok (.int 1))) (fun _ => M.ok none))))
def f_kinds_in : List D → M D := defD 1 1 m_kinds_in
def sp_kinds_in (K : PySem.W.Frag) : Sp := spP K (tabs K) f_kinds_in
def m_points_in : En → M Out :=
  (dRet (dOp dIx (dDisp (((fun _ => M.ok (.str "rod")), (fun _ => M.ok (.int 2))) :: (((fun _ => M.ok (.str "hinge")), (dOp dSub (dVar 0) (fun _ => M.ok (.int 1)))) :: (((fun _ => M.ok (.str "weld")), (fun _ => M.ok (.int 0))) :: [])))) (dVar 1)))
def f_points_in : List D → M D := defD 2 2 m_points_in
def sp_points_in (K : PySem.W.Frag) : Sp := spP K (tabs K) f_points_in
def m_speed_rows : En → M Out :=
  (dSeq (dIfS (dTest (dOp dEq (dCall (bOne lenD) (dCons (dVar 0) (fun _ => M.ok []))) (fun _ => M.ok (.int 1)))) (dRet (dLst (dCons (dTup (dCons (fun _ => M.ok (.int 1)) (fun _ => M.ok []))) (fun _ => M.ok [])))) (fun ρ => M.ok (.nx ρ)))
    (dSeq (dIfS (dTest (dOp dEq (dCall (bOne lenD) (dCons (dVar 0) (fun _ => M.ok []))) (fun _ => M.ok (.int 2)))) (dRet (dLst (dCons (dTup (dCons (fun _ => M.ok (.int 1)) (dCons (fun _ => M.ok (.int 0)) (dCons (dUn dNeg (dOp dIx (dVar 0) (fun _ => M.ok (.int 1)))) (fun _ => M.ok []))))) (dCons (dTup (dCons (fun _ => M.ok (.int 0)) (dCons (fun _ => M.ok (.int 1)) (dCons (dOp dIx (dVar 0) (fun _ => M.ok (.int 0))) (fun _ => M.ok []))))) (fun _ => M.ok []))))) (fun ρ => M.ok (.nx ρ)))
    (dSeq (dAsg (dVar 0) (dGTup 3 (dGCons (dName 1) (dGCons (dName 2) (dGCons (dName 3) dGNil)))))
    (dRet (dLst (dCons (dTup (dCons (fun _ => M.ok (.int 1)) (dCons (fun _ => M.ok (.int 0)) (dCons (fun _ => M.ok (.int 0)) (dCons (fun _ => M.ok (.int 0)) (dCons (dVar 3) (dCons (dUn dNeg (dVar 2)) (fun _ => M.ok [])))))))) (dCons (dTup (dCons (fun _ => M.ok (.int 0)) (dCons (fun _ => M.ok (.int 1)) (dCons (fun _ => M.ok (.int 0)) (dCons (dUn dNeg (dVar 3)) (dCons (fun _ => M.ok (.int 0)) (dCons (dVar 1) (fun _ => M.ok [])))))))) (dCons (dTup (dCons (fun _ => M.ok (.int 0)) (dCons (fun _ => M.ok (.int 0)) (dCons (fun _ => M.ok (.int 1)) (dCons (dVar 2) (dCons (dUn dNeg (dVar 1)) (dCons (fun _ => M.ok (.int 0)) (fun _ => M.ok [])))))))) (fun _ => M.ok [])))))))))
def f_speed_rows : List D → M D := defD 1 4 m_speed_rows
def sp_speed_rows (K : PySem.W.Frag) : Sp := spP K (tabs K) f_speed_rows
def m_times : En → M Out :=
  (dRet (dCall (bOne sumD) (dCons (dLc (dZip (dCons (dVar 0) (dCons (dVar 1) (fun _ => M.ok [])))) (dGTup 2 (dGCons (dName 2) (dGCons (dName 3) dGNil))) (fun _ => M.ok true) (dOp dMul (dVar 2) (dVar 3)) [2, 3]) (fun _ => M.ok []))))
def f_times : List D → M D := defD 2 4 m_times
def sp_times (K : PySem.W.Frag) : Sp := spP K (tabs K) f_times
def sp_law_pen (K : PySem.W.Frag) : Sp := fun vs H Q _ => ∃ (a : Addr) (ns : List Int), vs = [.ref a] ∧ SqL K H a (ns.map V.int) ∧ ns.length ≤ 63 ∧
  ∀ p c H', H p = none → H c = none → Same H H' → H' p = some (.lst [.ref c, .int 0, .int 0]) → H' c = some (.lst ((ns.take 60).map V.int)) → Q (.ref p) H'
def m_law_draw : En → M Out :=
  (dSeq (dIfS (dTest (dOp dGt (dOp dIx (dVar 0) (fun _ => M.ok (.int 2))) (fun _ => M.ok (.int 0)))) (dSeq (dAsg (dOp dIx (dVar 0) (fun _ => M.ok (.int 2))) (dName 2))
    (dSeq (dSet (dOp dDiv (dCall (bOne intD) (dCons (dVar 2) (fun _ => M.ok []))) (dVar 1)) (dVar 0) (fun _ => M.ok (.int 2)))
    (dRet (dOp dMod (dCall (bOne intD) (dCons (dVar 2) (fun _ => M.ok []))) (dVar 1))))) (fun ρ => M.ok (.nx ρ)))
    (dSeq (dAsg (dOp dIx (dVar 0) (fun _ => M.ok (.int 1))) (dName 3))
    (dSeq (dSet (dOp dAdd (dVar 3) (fun _ => M.ok (.int 1))) (dVar 0) (fun _ => M.ok (.int 1)))
    (dSeq (dAsg (dOp dAdd (dOp dMul (fun _ => M.ok (.int 50021)) (dVar 3)) (fun _ => M.ok (.int 7127))) (dName 4))
    (dSeq (dIfS (dTest (dOp dNe (dOp dIx (dVar 0) (fun _ => M.ok (.int 0))) (dLst (fun _ => M.ok [])))) (dAsg (dOp dIx (dOp dIx (dVar 0) (fun _ => M.ok (.int 0))) (dOp dMod (dCall (bOne intD) (dCons (dVar 3) (fun _ => M.ok []))) (dCall (bOne lenD) (dCons (dOp dIx (dVar 0) (fun _ => M.ok (.int 0))) (fun _ => M.ok []))))) (dName 4)) (fun ρ => M.ok (.nx ρ)))
    (dSeq (dIfS (dTAnd (dTest (dOp dLt (dVar 3) (dCall (bOne lenD) (dCons (dOp dIx (dVar 0) (fun _ => M.ok (.int 0))) (fun _ => M.ok []))))) (dTest (dOp dGe (dCall (bOne absD) (dCons (dVar 4) (fun _ => M.ok []))) (dOp dPow (fun _ => M.ok (.int 10)) (fun _ => M.ok (.int 18)))))) (dSeq (dAsg (dOp dAdd (dOp dMul (fun _ => M.ok (.int 2)) (dOp dSub (dCall (bOne absD) (dCons (dVar 4) (fun _ => M.ok []))) (dOp dPow (fun _ => M.ok (.int 10)) (fun _ => M.ok (.int 18))))) (dCall (bOne intD) (dCons (dOp dLt (dVar 4) (fun _ => M.ok (.int 0))) (fun _ => M.ok [])))) (dName 2))
    (dSeq (dSet (dOp dDiv (dCall (bOne intD) (dCons (dVar 2) (fun _ => M.ok []))) (dVar 1)) (dVar 0) (fun _ => M.ok (.int 2)))
    (dRet (dOp dMod (dCall (bOne intD) (dCons (dVar 2) (fun _ => M.ok []))) (dVar 1))))) (fun ρ => M.ok (.nx ρ)))
    (dSeq (dAsg (dOp dMod (dCall (bOne intD) (dCons (dOp dPow (dOp dAdd (dOp dAdd (dOp dMod (dCall (bOne intD) (dCons (dVar 4) (fun _ => M.ok []))) (fun _ => M.ok (.int 2147483587))) (dOp dMul (fun _ => M.ok (.int 50021)) (dVar 3))) (fun _ => M.ok (.int 7127))) (fun _ => M.ok (.int 5))) (fun _ => M.ok []))) (fun _ => M.ok (.int 2147483549))) (dName 5))
    (dSeq (dAsg (dOp dMod (dCall (bOne intD) (dCons (dOp dPow (dOp dAdd (dOp dAdd (dOp dMul (dVar 5) (dOp dAdd (dOp dMul (fun _ => M.ok (.int 2)) (dVar 3)) (fun _ => M.ok (.int 7127)))) (dOp dMul (dOp dMul (fun _ => M.ok (.int 33091)) (dVar 3)) (dVar 3))) (fun _ => M.ok (.int 50021))) (fun _ => M.ok (.int 3))) (fun _ => M.ok []))) (fun _ => M.ok (.int 2147483647))) (dName 5))
    (dRet (dOp dMod (dCall (bOne intD) (dCons (dOp dDiv (dVar 5) (fun _ => M.ok (.int 64))) (fun _ => M.ok []))) (dVar 1)))))))))))
def f_law_draw : List D → M D := defD 2 6 m_law_draw
def sp_law_draw (K : PySem.W.Frag) : Sp := spP K (tabs K) f_law_draw
def m_law_speed : En → M Out :=
  (dSeq (dIfS (dTest (dOp dEq (dCall (bOne lenD) (dCons (dVar 1) (fun _ => M.ok []))) (fun _ => M.ok (.int 1)))) (dRet (dLst (dCons (dOp dIx (dVar 0) (fun _ => M.ok (.int 0))) (fun _ => M.ok [])))) (fun ρ => M.ok (.nx ρ)))
    (dSeq (dIfS (dTest (dOp dEq (dCall (bOne lenD) (dCons (dVar 1) (fun _ => M.ok []))) (fun _ => M.ok (.int 2)))) (dRet (dLst (dCons (dOp dSub (dOp dIx (dVar 0) (fun _ => M.ok (.int 0))) (dOp dMul (dOp dIx (dVar 0) (fun _ => M.ok (.int 2))) (dOp dIx (dVar 1) (fun _ => M.ok (.int 1))))) (dCons (dOp dAdd (dOp dIx (dVar 0) (fun _ => M.ok (.int 1))) (dOp dMul (dOp dIx (dVar 0) (fun _ => M.ok (.int 2))) (dOp dIx (dVar 1) (fun _ => M.ok (.int 0))))) (fun _ => M.ok []))))) (fun ρ => M.ok (.nx ρ)))
    (dSeq (dAsg (dOp dSub (dOp dAdd (dOp dIx (dVar 0) (fun _ => M.ok (.int 0))) (dOp dMul (dOp dIx (dVar 0) (fun _ => M.ok (.int 4))) (dOp dIx (dVar 1) (fun _ => M.ok (.int 2))))) (dOp dMul (dOp dIx (dVar 0) (fun _ => M.ok (.int 5))) (dOp dIx (dVar 1) (fun _ => M.ok (.int 1))))) (dName 2))
    (dSeq (dAsg (dOp dSub (dOp dAdd (dOp dIx (dVar 0) (fun _ => M.ok (.int 1))) (dOp dMul (dOp dIx (dVar 0) (fun _ => M.ok (.int 5))) (dOp dIx (dVar 1) (fun _ => M.ok (.int 0))))) (dOp dMul (dOp dIx (dVar 0) (fun _ => M.ok (.int 3))) (dOp dIx (dVar 1) (fun _ => M.ok (.int 2))))) (dName 3))
    (dRet (dLst (dCons (dVar 2) (dCons (dVar 3) (dCons (dOp dSub (dOp dAdd (dOp dIx (dVar 0) (fun _ => M.ok (.int 2))) (dOp dMul (dOp dIx (dVar 0) (fun _ => M.ok (.int 3))) (dOp dIx (dVar 1) (fun _ => M.ok (.int 1))))) (dOp dMul (dOp dIx (dVar 0) (fun _ => M.ok (.int 4))) (dOp dIx (dVar 1) (fun _ => M.ok (.int 0))))) (fun _ => M.ok []))))))))))
def f_law_speed : List D → M D := defD 2 4 m_law_speed
def sp_law_speed (K : PySem.W.Frag) : Sp := spP K (tabs K) f_law_speed
def m_law_units : En → M Out :=
  (dRet (dLc (dRng1 (dCons (dVar 0) (fun _ => M.ok []))) (dName 1) (fun _ => M.ok true) (dLc (dRng1 (dCons (dVar 0) (fun _ => M.ok []))) (dName 2) (fun _ => M.ok true) (dCall (bOne intD) (dCons (dOp dEq (dVar 2) (dVar 1)) (fun _ => M.ok []))) [2]) [1]))
def f_law_units : List D → M D := defD 1 3 m_law_units
def sp_law_units (K : PySem.W.Frag) : Sp := spP K (tabs K) f_law_units
def hm_law_heard : R D → R D
  | .ok _ s => .ok .non s
  | .bad => .bad
  | .er x ns ds s => if x = "BadDimension" ∧ ns = (["value"] : List Str) then (match ds with | [d_value] => .ok (.tup [.str "BadDimension", d_value]) s | _ => .bad) else if x = "BadName" ∧ ns = (["value"] : List Str) then (match ds with | [d_value] => .ok (.tup [.str "BadName", d_value]) s | _ => .bad) else if x = "BadNumber" ∧ ns = (["part"] : List Str) then (match ds with | [d_part] => .ok (.tup [.str "BadNumber", d_part]) s | _ => .bad) else .bad
def TT_law_heard (K : PySem.W.Frag) : Hear := TTM K (tabs K) hm_law_heard
def m_law_says : En → M Out :=
  (dRet (dIf (dTru (dVar 1)) (dOp (dIs false) (dVar 0) (fun _ => M.ok (.bl true))) (dOp (dIs false) (dVar 0) (fun _ => M.ok (.bl false)))))
def f_law_says : List D → M D := defD 2 2 m_law_says
def sp_law_says (K : PySem.W.Frag) : Sp := spP K (tabs K) f_law_says
def m_law_is_coordinate : En → M Out :=
  (dRet (dAnd (dIs1 .int (dVar 0)) (dAnd (dNot (dIs1 .bl (dVar 0))) (dOp dLt (dCall (bOne absD) (dCons (dVar 0) (fun _ => M.ok []))) (dOp dPow (fun _ => M.ok (.int 10)) (fun _ => M.ok (.int 12)))))))
def f_law_is_coordinate : List D → M D := defD 1 1 m_law_is_coordinate
def sp_law_is_coordinate (K : PySem.W.Frag) : Sp := spP K (tabs K) f_law_is_coordinate
def m_law_same : En → M Out :=
  (dSeq (dIfS (dTOr (dTNot (dTest (dIs1 .tup (dVar 0)))) (dTest (dOp dNe (dCall (bOne lenD) (dCons (dVar 0) (fun _ => M.ok []))) (dCall (bOne lenD) (dCons (dVar 1) (fun _ => M.ok [])))))) (dRet (fun _ => M.ok (.bl false))) (fun ρ => M.ok (.nx ρ)))
    (dRet (dCall (bOne allD) (dCons (dLc (dRng1 (dCons (dCall (bOne lenD) (dCons (dVar 1) (fun _ => M.ok []))) (fun _ => M.ok []))) (dName 2) (fun _ => M.ok true) (dAnd (dIs1 .int (dOp dIx (dVar 0) (dVar 2))) (dAnd (dNot (dIs1 .bl (dOp dIx (dVar 0) (dVar 2)))) (dOp dEq (dOp dIx (dVar 0) (dVar 2)) (dOp dIx (dVar 1) (dVar 2))))) [2]) (fun _ => M.ok [])))))
def f_law_same : List D → M D := defD 2 3 m_law_same
def sp_law_same (K : PySem.W.Frag) : Sp := spP K (tabs K) f_law_same
def m_is_within : En → M Out :=
  (dRet (dAnd (dCallP f_is_integer (dCons (dVar 0) (fun _ => M.ok []))) (dChain dLe dLe (dVar 1) (dVar 0) (dVar 2))))
def f_is_within : List D → M D := defD 3 3 m_is_within
def sp_is_within (K : PySem.W.Frag) : Sp := spP K (tabs K) f_is_within
def m_line_between : En → M Out :=
  (dSeq (dAsg (dLc (dZip (dCons (dVar 0) (dCons (dVar 1) (fun _ => M.ok [])))) (dGTup 2 (dGCons (dName 4) (dGCons (dName 5) dGNil))) (fun _ => M.ok true) (dOp dSub (dVar 5) (dVar 4)) [4, 5]) (dName 2))
    (dSeq (dAsg (dCallP f_speed_rows (dCons (dVar 0) (fun _ => M.ok []))) (dName 3))
    (dRet (dCall (bOne tupleD) (dCons (dLc (dRng1 (dCons (dCall (bOne lenD) (dCons (dOp dIx (dVar 3) (fun _ => M.ok (.int 0))) (fun _ => M.ok []))) (fun _ => M.ok []))) (dName 6) (fun _ => M.ok true) (dCall (bOne sumD) (dCons (dLc (dEnum (dCons (dVar 3) (fun _ => M.ok []))) (dGTup 2 (dGCons (dName 7) (dGCons (dName 8) dGNil))) (fun _ => M.ok true) (dOp dMul (dOp dIx (dVar 2) (dVar 7)) (dOp dIx (dVar 8) (dVar 6))) [7, 8]) (fun _ => M.ok []))) [6]) (fun _ => M.ok []))))))
def f_line_between : List D → M D := defD 2 9 m_line_between
def sp_line_between (K : PySem.W.Frag) : Sp := spP K (tabs K) f_line_between
def m_is_small_motion : En → M Out :=
  (dRet (dAnd (dIs1 .tup (dVar 1)) (dAnd (dOp dEq (dCall (bOne lenD) (dCons (dVar 1) (fun _ => M.ok []))) (dVar 0)) (dCall (bOne allD) (dCons (dLc (dIt (dVar 1)) (dName 2) (fun _ => M.ok true) (dCallP f_is_integer (dCons (dVar 2) (fun _ => M.ok []))) [2]) (fun _ => M.ok []))))))
def f_is_small_motion : List D → M D := defD 2 3 m_is_small_motion
def sp_is_small_motion (K : PySem.W.Frag) : Sp := spP K (tabs K) f_is_small_motion
def m_law_pick : En → M Out :=
  (dRet (dOp dIx (dVar 1) (dCallP f_law_draw (dCons (dVar 0) (dCons (dCall (bOne lenD) (dCons (dVar 1) (fun _ => M.ok []))) (fun _ => M.ok []))))))
def f_law_pick : List D → M D := defD 2 2 m_law_pick
def sp_law_pick (K : PySem.W.Frag) : Sp := spP K (tabs K) f_law_pick
def m_law_is_point : En → M Out :=
  (dRet (dAnd (dIs1 .tup (dVar 1)) (dAnd (dOp dEq (dCall (bOne lenD) (dCons (dVar 1) (fun _ => M.ok []))) (dVar 0)) (dCall (bOne allD) (dCons (dLc (dIt (dVar 1)) (dName 2) (fun _ => M.ok true) (dCallP f_law_is_coordinate (dCons (dVar 2) (fun _ => M.ok []))) [2]) (fun _ => M.ok []))))))
def f_law_is_point : List D → M D := defD 2 3 m_law_is_point
def sp_law_is_point (K : PySem.W.Frag) : Sp := spP K (tabs K) f_law_is_point
def m_coordinate : En → M Out :=
  (dRet (dCallP f_is_within (dCons (dVar 0) (dCons (dUn dNeg (fun _ => M.ok (.int 999999999999))) (dCons (fun _ => M.ok (.int 999999999999)) (fun _ => M.ok []))))))
def f_coordinate : List D → M D := defD 1 1 m_coordinate
def sp_coordinate (K : PySem.W.Frag) : Sp := spP K (tabs K) f_coordinate
def m_need_dimension : En → M Out :=
  (dIfS (dTNot (dTest (dCallP f_is_within (dCons (dVar 0) (dCons (fun _ => M.ok (.int 1)) (dCons (fun _ => M.ok (.int 3)) (fun _ => M.ok []))))))) (dRaise "BadDimension" ["value"] (dCons (dVar 0) (fun _ => M.ok []))) (fun ρ => M.ok (.nx ρ)))
def f_need_dimension : List D → M D := defD 1 1 m_need_dimension
def sp_need_dimension (K : PySem.W.Frag) : Sp := spM K (tabs K) f_need_dimension
def m_law_far : En → M Out :=
  (dSeq (dIfS (dTest (dOp dEq (dCallP f_law_draw (dCons (dVar 0) (dCons (fun _ => M.ok (.int 6)) (fun _ => M.ok [])))) (fun _ => M.ok (.int 0)))) (dRet (dCallP f_law_pick (dCons (dVar 0) (dCons (dLst (dCons (fun _ => M.ok (.int 999999999999)) (dCons (dUn dNeg (fun _ => M.ok (.int 999999999999))) (fun _ => M.ok [])))) (fun _ => M.ok []))))) (fun ρ => M.ok (.nx ρ)))
    (dRet (dOp dMul (dOp dSub (fun _ => M.ok (.int 1)) (dOp dMul (fun _ => M.ok (.int 2)) (dCallP f_law_draw (dCons (dVar 0) (dCons (fun _ => M.ok (.int 2)) (fun _ => M.ok [])))))) (dOp dAdd (dOp dMul (dCallP f_law_draw (dCons (dVar 0) (dCons (dOp dPow (fun _ => M.ok (.int 10)) (fun _ => M.ok (.int 6))) (fun _ => M.ok [])))) (dOp dPow (fun _ => M.ok (.int 10)) (fun _ => M.ok (.int 6)))) (dCallP f_law_draw (dCons (dVar 0) (dCons (dOp dPow (fun _ => M.ok (.int 10)) (fun _ => M.ok (.int 6))) (fun _ => M.ok []))))))))
def f_law_far : List D → M D := defD 1 1 m_law_far
def sp_law_far (K : PySem.W.Frag) : Sp := spP K (tabs K) f_law_far
def m_law_is_spot : En → M Out :=
  (dSeq (dAsg (dIf (dTest (dOp dEq (dVar 1) (fun _ => M.ok (.str "rod")))) (fun _ => M.ok (.int 2)) (dIf (dTest (dOp dEq (dVar 1) (fun _ => M.ok (.str "hinge")))) (dOp dSub (dVar 0) (fun _ => M.ok (.int 1))) (fun _ => M.ok (.int 0)))) (dName 3))
    (dRet (dAnd (dIs1 .tup (dVar 2)) (dAnd (dOp dEq (dCall (bOne lenD) (dCons (dVar 2) (fun _ => M.ok []))) (dVar 3)) (dCall (bOne allD) (dCons (dLc (dIt (dVar 2)) (dName 4) (fun _ => M.ok true) (dCallP f_law_is_point (dCons (dVar 0) (dCons (dVar 4) (fun _ => M.ok [])))) [4]) (fun _ => M.ok [])))))))
def f_law_is_spot : List D → M D := defD 3 5 m_law_is_spot
def sp_law_is_spot (K : PySem.W.Frag) : Sp := spP K (tabs K) f_law_is_spot
def m_has_point_form : En → M Out :=
  (dSeq (dIfS (dTOr (dTNot (dTest (dIs1 .tup (dVar 1)))) (dTest (dOp dNe (dCall (bOne lenD) (dCons (dVar 1) (fun _ => M.ok []))) (dVar 0)))) (dRet (fun _ => M.ok (.bl false))) (fun ρ => M.ok (.nx ρ)))
    (dRet (dCall (bOne allD) (dCons (dLc (dIt (dVar 1)) (dName 2) (fun _ => M.ok true) (dCallP f_coordinate (dCons (dVar 2) (fun _ => M.ok []))) [2]) (fun _ => M.ok [])))))
def f_has_point_form : List D → M D := defD 2 3 m_has_point_form
def sp_has_point_form (K : PySem.W.Frag) : Sp := spP K (tabs K) f_has_point_form
def m_law_number : En → M Out :=
  (dSeq (dAsg (dCallP f_law_pick (dCons (dVar 0) (dCons (dLst (dCons (fun _ => M.ok (.int 3)) (dCons (fun _ => M.ok (.int 40)) (dCons (dOp dPow (fun _ => M.ok (.int 10)) (fun _ => M.ok (.int 6))) (fun _ => M.ok []))))) (fun _ => M.ok [])))) (dName 1))
    (dSeq (dAsg (dCallP f_law_pick (dCons (dVar 0) (dCons (dLst (dCons (fun _ => M.ok (.int 999999999999)) (dCons (fun _ => M.ok (.int 999999999998)) (dCons (dOp dPow (fun _ => M.ok (.int 10)) (fun _ => M.ok (.int 12))) (dCons (dCallP f_law_far (dCons (dVar 0) (fun _ => M.ok []))) (dCons (dOp dPow (fun _ => M.ok (.int 10)) (fun _ => M.ok (.int 40))) (fun _ => M.ok []))))))) (fun _ => M.ok [])))) (dName 2))
    (dSeq (dPar 3 4 (dCons (dCallP f_law_draw (dCons (dVar 0) (dCons (fun _ => M.ok (.int 5)) (fun _ => M.ok [])))) (dCons (dOp dSub (fun _ => M.ok (.int 1)) (dOp dMul (fun _ => M.ok (.int 2)) (dCallP f_law_draw (dCons (dVar 0) (dCons (fun _ => M.ok (.int 2)) (fun _ => M.ok [])))))) (fun _ => M.ok []))))
    (dRet (dIf (dTest (dOp dEq (dVar 3) (fun _ => M.ok (.int 0)))) (dOp dMul (dVar 4) (dVar 2)) (dOp dSub (dCallP f_law_draw (dCons (dVar 0) (dCons (dOp dAdd (dOp dMul (fun _ => M.ok (.int 2)) (dVar 1)) (fun _ => M.ok (.int 1))) (fun _ => M.ok [])))) (dVar 1)))))))
def f_law_number : List D → M D := defD 1 5 m_law_number
def sp_law_number (K : PySem.W.Frag) : Sp := spP K (tabs K) f_law_number
def m_has_spot_form : En → M Out :=
  (dSeq (dIfS (dTOr (dTNot (dTest (dIs1 .tup (dVar 2)))) (dTest (dOp dNe (dCall (bOne lenD) (dCons (dVar 2) (fun _ => M.ok []))) (dCallP f_points_in (dCons (dVar 0) (dCons (dVar 1) (fun _ => M.ok []))))))) (dRet (fun _ => M.ok (.bl false))) (fun ρ => M.ok (.nx ρ)))
    (dRet (dCall (bOne allD) (dCons (dLc (dIt (dVar 2)) (dName 3) (fun _ => M.ok true) (dCallP f_has_point_form (dCons (dVar 0) (dCons (dVar 3) (fun _ => M.ok [])))) [3]) (fun _ => M.ok [])))))
def f_has_spot_form : List D → M D := defD 3 4 m_has_spot_form
def sp_has_spot_form (K : PySem.W.Frag) : Sp := spP K (tabs K) f_has_spot_form
def m_has_any_point_form : En → M Out :=
  (dRet (dAnd (dIs1 .tup (dVar 0)) (dAnd (dChain dLe dLe (fun _ => M.ok (.int 1)) (dCall (bOne lenD) (dCons (dVar 0) (fun _ => M.ok []))) (fun _ => M.ok (.int 3))) (dCallP f_has_point_form (dCons (dCall (bOne lenD) (dCons (dVar 0) (fun _ => M.ok []))) (dCons (dVar 0) (fun _ => M.ok [])))))))
def f_has_any_point_form : List D → M D := defD 1 1 m_has_any_point_form
def sp_has_any_point_form (K : PySem.W.Frag) : Sp := spP K (tabs K) f_has_any_point_form
def m_is_point : En → M Out :=
  (dSeq (dDrop (dCall f_need_dimension (dCons (dVar 0) (fun _ => M.ok []))))
    (dRet (dCallP f_has_point_form (dCons (dVar 0) (dCons (dVar 1) (fun _ => M.ok []))))))
def f_is_point : List D → M D := defD 2 2 m_is_point
def sp_is_point (K : PySem.W.Frag) : Sp := spM K (tabs K) f_is_point
def m_speed : En → M Out :=
  (dSeq (dIfS (dTOr (dTNot (dTest (dIs1 .tup (dVar 0)))) (dTOr (dTest (dInI true [(1, (.int 1)), (3, (.int 2)), (6, (.int 3))] (dCall (bOne lenD) (dCons (dVar 0) (fun _ => M.ok []))))) (dTNot (dTest (dCallP f_is_small_motion (dCons (dCall (bOne lenD) (dCons (dVar 0) (fun _ => M.ok []))) (dCons (dVar 0) (fun _ => M.ok [])))))))) (dRaise "BadNumber" ["part"] (dCons (fun _ => M.ok (.str "motion")) (fun _ => M.ok []))) (fun ρ => M.ok (.nx ρ)))
    (dSeq (dIfS (dTNot (dTest (dCallP f_has_point_form (dCons (dIxI [(1, (.int 1)), (3, (.int 2)), (6, (.int 3))] (dCall (bOne lenD) (dCons (dVar 0) (fun _ => M.ok [])))) (dCons (dVar 1) (fun _ => M.ok [])))))) (dRaise "BadNumber" ["part"] (dCons (fun _ => M.ok (.str "point")) (fun _ => M.ok []))) (fun ρ => M.ok (.nx ρ)))
    (dRet (dCall (bOne tupleD) (dCons (dLc (dIt (dCallP f_speed_rows (dCons (dVar 1) (fun _ => M.ok [])))) (dName 2) (fun _ => M.ok true) (dCallP f_times (dCons (dVar 2) (dCons (dVar 0) (fun _ => M.ok [])))) [2]) (fun _ => M.ok []))))))
def f_speed : List D → M D := defD 2 3 m_speed
def sp_speed (K : PySem.W.Frag) : Sp := spM K (tabs K) f_speed
def m_law_odd : En → M Out :=
  (dSeq (dAsg (dCall (bOne tupleD) (dCons (dLc (dRng1 (dCons (dVar 1) (fun _ => M.ok []))) (dName 5) (fun _ => M.ok true) (dCallP f_law_number (dCons (dVar 0) (fun _ => M.ok []))) [5]) (fun _ => M.ok []))) (dName 2))
    (dSeq (dAsg (dCallP f_law_draw (dCons (dVar 0) (dCons (dVar 1) (fun _ => M.ok [])))) (dName 3))
    (dSeq (dAsg (dLst (dCons (dVar 2) (dCons (dVar 2) (dCons (dVar 2) (dCons (dCall (bOne listD) (dCons (dVar 2) (fun _ => M.ok []))) (dCons (dOp dAdd (dVar 2) (dTup (dCons (fun _ => M.ok (.int 0)) (fun _ => M.ok [])))) (dCons (dSl (dVar 2) (dPart (fun _ => M.ok (.int 1))) (fun _ => M.ok none)) (dCons (dOp dAdd (dOp dAdd (dSl (dVar 2) (fun _ => M.ok none) (dPart (dVar 3))) (dTup (dCons (fun _ => M.ok (.bl true)) (fun _ => M.ok [])))) (dSl (dVar 2) (dPart (dOp dAdd (dVar 3) (fun _ => M.ok (.int 1)))) (fun _ => M.ok none))) (fun _ => M.ok []))))))))) (dName 4))
    (dSeq (dAsg (dOp dAdd (dVar 4) (dLst (dCons (dOp dAdd (dOp dAdd (dSl (dVar 2) (fun _ => M.ok none) (dPart (dVar 3))) (dTup (dCons (dCall (bOne strD) (dCons (dOp dIx (dVar 2) (dVar 3)) (fun _ => M.ok []))) (fun _ => M.ok [])))) (dSl (dVar 2) (dPart (dOp dAdd (dVar 3) (fun _ => M.ok (.int 1)))) (fun _ => M.ok none))) (dCons (dOp dAdd (dOp dAdd (dSl (dVar 2) (fun _ => M.ok none) (dPart (dVar 3))) (dTup (dCons (fun _ => M.ok .non) (fun _ => M.ok [])))) (dSl (dVar 2) (dPart (dOp dAdd (dVar 3) (fun _ => M.ok (.int 1)))) (fun _ => M.ok none))) (dCons (fun _ => M.ok .non) (dCons (dOp dIx (dVar 2) (fun _ => M.ok (.int 0))) (dCons (dTup (dCons (dVar 2) (fun _ => M.ok []))) (dCons (fun _ => M.ok (.str "0")) (fun _ => M.ok []))))))))) (dName 4))
    (dRet (dCallP f_law_pick (dCons (dVar 0) (dCons (dVar 4) (fun _ => M.ok [])))))))))
def f_law_odd : List D → M D := defD 2 6 m_law_odd
def sp_law_odd (K : PySem.W.Frag) : Sp := spP K (tabs K) f_law_odd
def m_is_spot : En → M Out :=
  (dSeq (dDrop (dCall f_need_dimension (dCons (dVar 0) (fun _ => M.ok []))))
    (dSeq (dIfS (dTOr (dTNot (dTest (dIs1 .str (dVar 1)))) (dTest (dOp (dIn true) (dVar 1) (dCallP f_kinds_in (dCons (dVar 0) (fun _ => M.ok [])))))) (dRaise "BadName" ["value"] (dCons (dVar 1) (fun _ => M.ok []))) (fun ρ => M.ok (.nx ρ)))
    (dRet (dCallP f_has_spot_form (dCons (dVar 0) (dCons (dVar 1) (dCons (dVar 2) (fun _ => M.ok []))))))))
def f_is_spot : List D → M D := defD 3 3 m_is_spot
def sp_is_spot (K : PySem.W.Frag) : Sp := spM K (tabs K) f_is_spot
def m_line : En → M Out :=
  (dSeq (dIfS (dTNot (dTest (dCallP f_has_any_point_form (dCons (dVar 0) (fun _ => M.ok []))))) (dRaise "BadNumber" ["part"] (dCons (fun _ => M.ok (.str "one")) (fun _ => M.ok []))) (fun ρ => M.ok (.nx ρ)))
    (dSeq (dIfS (dTNot (dTest (dCallP f_has_point_form (dCons (dCall (bOne lenD) (dCons (dVar 0) (fun _ => M.ok []))) (dCons (dVar 1) (fun _ => M.ok [])))))) (dRaise "BadNumber" ["part"] (dCons (fun _ => M.ok (.str "other")) (fun _ => M.ok []))) (fun ρ => M.ok (.nx ρ)))
    (dRet (dCallP f_line_between (dCons (dVar 0) (dCons (dVar 1) (fun _ => M.ok [])))))))
def f_line : List D → M D := defD 2 2 m_line
def sp_line (K : PySem.W.Frag) : Sp := spM K (tabs K) f_line
def m_law_looks_right : En → M Out :=
  (dSeq (dPar 2 3 (dCons (dCallP f_law_pick (dCons (dVar 0) (dCons (dLst (dCons (dCallP f_law_number (dCons (dVar 0) (fun _ => M.ok []))) (dCons (dCallP f_law_number (dCons (dVar 0) (fun _ => M.ok []))) (dCons (fun _ => M.ok (.bl true)) (dCons (fun _ => M.ok .non) (dCons (fun _ => M.ok (.str "1")) (dCons (dTup (dCons (fun _ => M.ok (.int 1)) (fun _ => M.ok []))) (fun _ => M.ok [])))))))) (fun _ => M.ok [])))) (dCons (dCallP f_law_odd (dCons (dVar 0) (dCons (dVar 1) (fun _ => M.ok [])))) (fun _ => M.ok []))))
    (dSeq (dIfS (dTOr (dTNot (dTest (dCallP f_law_says (dCons (dCallP f_coordinate (dCons (dVar 2) (fun _ => M.ok []))) (dCons (dCallP f_law_is_coordinate (dCons (dVar 2) (fun _ => M.ok []))) (fun _ => M.ok [])))))) (dTNot (dTest (dCallP f_law_says (dCons (dCallP f_coordinate (dCons (dVar 3) (fun _ => M.ok []))) (dCons (dCallP f_law_is_coordinate (dCons (dVar 3) (fun _ => M.ok []))) (fun _ => M.ok []))))))) (dRet (fun _ => M.ok (.bl false))) (fun ρ => M.ok (.nx ρ)))
    (dSeq (dIfS (dTNot (dTest (dCallP f_law_says (dCons (dCallP f_is_point (dCons (dVar 1) (dCons (dVar 3) (fun _ => M.ok [])))) (dCons (dCallP f_law_is_point (dCons (dVar 1) (dCons (dVar 3) (fun _ => M.ok [])))) (fun _ => M.ok [])))))) (dRet (fun _ => M.ok (.bl false))) (fun ρ => M.ok (.nx ρ)))
    (dSeq (dFor (dIt (dSl (dLst (dCons (fun _ => M.ok (.str "rod")) (dCons (fun _ => M.ok (.str "hinge")) (dCons (fun _ => M.ok (.str "weld")) (fun _ => M.ok []))))) (fun _ => M.ok none) (dPart (dOp dAdd (dVar 1) (fun _ => M.ok (.int 1)))))) (dName 4) (dIfS (dTOr (dTest (dOp dGt (dVar 1) (fun _ => M.ok (.int 1)))) (dTest (dOp dEq (dVar 4) (fun _ => M.ok (.str "rod"))))) (dSeq (dAsg (dCall (bOne tupleD) (dCons (dLc (dRng1 (dCons (dCallP f_law_draw (dCons (dVar 0) (dCons (fun _ => M.ok (.int 4)) (fun _ => M.ok [])))) (fun _ => M.ok []))) (dName 9) (fun _ => M.ok true) (dCall (bOne tupleD) (dCons (dLc (dRng1 (dCons (dVar 1) (fun _ => M.ok []))) (dName 10) (fun _ => M.ok true) (dOp dSub (dCallP f_law_draw (dCons (dVar 0) (dCons (fun _ => M.ok (.int 9)) (fun _ => M.ok [])))) (fun _ => M.ok (.int 4))) [10]) (fun _ => M.ok []))) [9]) (fun _ => M.ok []))) (dName 5))
    (dSeq (dAsg (dOp dMul (dSl (dVar 5) (fun _ => M.ok none) (dPart (fun _ => M.ok (.int 1)))) (dIf (dTest (dOp dEq (dVar 4) (fun _ => M.ok (.str "rod")))) (fun _ => M.ok (.int 2)) (dIf (dTest (dOp dEq (dVar 4) (fun _ => M.ok (.str "hinge")))) (dOp dSub (dVar 1) (fun _ => M.ok (.int 1))) (fun _ => M.ok (.int 0))))) (dName 6))
    (dSeq (dAsg (dLst (dCons (dVar 5) (dCons (dVar 6) (dCons (dOp dAdd (dSl (dVar 6) (dPart (fun _ => M.ok (.int 1))) (fun _ => M.ok none)) (dTup (dCons (dVar 3) (fun _ => M.ok [])))) (dCons (dOp dAdd (dTup (dCons (dVar 3) (fun _ => M.ok []))) (dSl (dVar 6) (dPart (fun _ => M.ok (.int 1))) (fun _ => M.ok none))) (dCons (dCall (bOne listD) (dCons (dVar 6) (fun _ => M.ok []))) (dCons (dOp dAdd (dVar 6) (dSl (dVar 5) (fun _ => M.ok none) (dPart (fun _ => M.ok (.int 1))))) (dCons (fun _ => M.ok .non) (dCons (fun _ => M.ok (.dct [] [])) (dCons (dVar 4) (fun _ => M.ok []))))))))))) (dName 7))
    (dFor (dIt (dVar 7)) (dName 8) (dIfS (dTNot (dTest (dCallP f_law_says (dCons (dCallP f_is_spot (dCons (dVar 1) (dCons (dVar 4) (dCons (dVar 8) (fun _ => M.ok []))))) (dCons (dCallP f_law_is_spot (dCons (dVar 1) (dCons (dVar 4) (dCons (dVar 8) (fun _ => M.ok []))))) (fun _ => M.ok [])))))) (dRet (fun _ => M.ok (.bl false))) (fun ρ => M.ok (.nx ρ))))))) (fun ρ => M.ok (.nx ρ))))
    (dRet (dAnd (dOp (dIs false) (dCallP f_is_spot (dPerm [2, 1, 0] (dCons (dTup (fun _ => M.ok [])) (dCons (fun _ => M.ok (.str "weld")) (dCons (dVar 1) (fun _ => M.ok [])))))) (fun _ => M.ok (.bl true))) (dOp (dIs false) (dCallP f_is_point (dPerm [1, 0] (dCons (dOp dMul (dTup (dCons (fun _ => M.ok (.int 0)) (fun _ => M.ok []))) (dVar 1)) (dCons (dVar 1) (fun _ => M.ok []))))) (fun _ => M.ok (.bl true)))))))))
def f_law_looks_right : List D → M D := defD 2 11 m_law_looks_right
def sp_law_looks_right (K : PySem.W.Frag) : Sp := spP K (tabs K) f_law_looks_right
def m_law_numbers_right : En → M Out :=
  (dSeq (dAsg (dCallP f_law_pick (dCons (dVar 0) (dCons (dLst (dCons (fun _ => M.ok (.int 3)) (dCons (dOp dPow (fun _ => M.ok (.int 10)) (fun _ => M.ok (.int 6))) (dCons (fun _ => M.ok (.int 0)) (fun _ => M.ok []))))) (fun _ => M.ok [])))) (dName 2))
    (dSeq (dAsg (dCall (bOne tupleD) (dCons (dLc (dRng1 (dCons (dVar 1) (fun _ => M.ok []))) (dName 12) (fun _ => M.ok true) (dIf (dTest (dOp dGt (dVar 2) (fun _ => M.ok (.int 0)))) (dOp dSub (dCallP f_law_draw (dCons (dVar 0) (dCons (dOp dAdd (dOp dMul (fun _ => M.ok (.int 2)) (dVar 2)) (fun _ => M.ok (.int 1))) (fun _ => M.ok [])))) (dVar 2)) (dCallP f_law_far (dCons (dVar 0) (fun _ => M.ok [])))) [12]) (fun _ => M.ok []))) (dName 3))
    (dSeq (dAsg (dCall (bOne tupleD) (dCons (dLc (dRng1 (dCons (dVar 1) (fun _ => M.ok []))) (dName 12) (fun _ => M.ok true) (dIf (dTest (dOp dGt (dVar 2) (fun _ => M.ok (.int 0)))) (dOp dSub (dCallP f_law_draw (dCons (dVar 0) (dCons (dOp dAdd (dOp dMul (fun _ => M.ok (.int 2)) (dVar 2)) (fun _ => M.ok (.int 1))) (fun _ => M.ok [])))) (dVar 2)) (dCallP f_law_far (dCons (dVar 0) (fun _ => M.ok [])))) [12]) (fun _ => M.ok []))) (dName 4))
    (dSeq (dAsg (dTup (dCons (dOp dDiv (dOp dMul (dVar 1) (dOp dAdd (dVar 1) (fun _ => M.ok (.int 1)))) (fun _ => M.ok (.int 2))) (dCons (dLc (dRng1 (dCons (dVar 1) (fun _ => M.ok []))) (dName 12) (fun _ => M.ok true) (dOp dSub (dOp dIx (dVar 4) (dVar 12)) (dOp dIx (dVar 3) (dVar 12))) [12]) (fun _ => M.ok [])))) (dGTup 2 (dGCons (dName 5) (dGCons (dName 6) dGNil))))
    (dSeq (dAsg (dLc (dIt (dCallP f_law_units (dCons (dVar 5) (fun _ => M.ok [])))) (dName 13) (fun _ => M.ok true) (dCall (bOne sumD) (dCons (dLc (dRng1 (dCons (dVar 1) (fun _ => M.ok []))) (dName 12) (fun _ => M.ok true) (dOp dMul (dOp dIx (dVar 6) (dVar 12)) (dOp dIx (dCallP f_law_speed (dCons (dVar 13) (dCons (dVar 3) (fun _ => M.ok [])))) (dVar 12))) [12]) (fun _ => M.ok []))) [13]) (dName 7))
    (dSeq (dIfS (dTOr (dTNot (dTest (dCallP f_law_same (dCons (dCallP f_line (dCons (dVar 3) (dCons (dVar 4) (fun _ => M.ok [])))) (dCons (dVar 7) (fun _ => M.ok [])))))) (dTNot (dTest (dCallP f_law_same (dCons (dCallP f_line (dPerm [1, 0] (dCons (dVar 3) (dCons (dVar 4) (fun _ => M.ok []))))) (dCons (dLc (dIt (dVar 7)) (dName 14) (fun _ => M.ok true) (dOp dSub (fun _ => M.ok (.int 0)) (dVar 14)) [14]) (fun _ => M.ok []))))))) (dRet (fun _ => M.ok (.bl false))) (fun ρ => M.ok (.nx ρ)))
    (dSeq (dAsg (dCall (bOne tupleD) (dCons (dLc (dRng1 (dCons (dVar 5) (fun _ => M.ok []))) (dName 12) (fun _ => M.ok true) (dCallP f_law_number (dCons (dVar 0) (fun _ => M.ok []))) [12]) (fun _ => M.ok []))) (dName 8))
    (dSeq (dAsg (dCallP f_speed (dCons (dVar 8) (dCons (dVar 3) (fun _ => M.ok [])))) (dName 9))
    (dSeq (dIfS (dTOr (dTNot (dTest (dCallP f_law_same (dCons (dVar 9) (dCons (dCallP f_law_speed (dCons (dVar 8) (dCons (dVar 3) (fun _ => M.ok [])))) (fun _ => M.ok [])))))) (dTest (dOp dNe (dCallP f_speed (dPerm [1, 0] (dCons (dVar 3) (dCons (dVar 8) (fun _ => M.ok []))))) (dVar 9)))) (dRet (fun _ => M.ok (.bl false))) (fun ρ => M.ok (.nx ρ)))
    (dSeq (dAsg (dTup (dCons (dCallP f_speed (dCons (dVar 8) (dCons (dVar 3) (fun _ => M.ok [])))) (dCons (dCallP f_speed (dCons (dVar 8) (dCons (dVar 4) (fun _ => M.ok [])))) (fun _ => M.ok [])))) (dGTup 2 (dGCons (dName 10) (dGCons (dName 11) dGNil))))
    (dRet (dOp dEq (dCall (bOne sumD) (dCons (dLc (dRng1 (dCons (dVar 1) (fun _ => M.ok []))) (dName 12) (fun _ => M.ok true) (dOp dMul (dOp dIx (dVar 6) (dVar 12)) (dOp dSub (dOp dIx (dVar 11) (dVar 12)) (dOp dIx (dVar 10) (dVar 12)))) [12]) (fun _ => M.ok []))) (fun _ => M.ok (.int 0))))))))))))))
def f_law_numbers_right : List D → M D := defD 2 15 m_law_numbers_right
def sp_law_numbers_right (K : PySem.W.Frag) : Sp := spP K (tabs K) f_law_numbers_right
def m_law_refused : En → M Out :=
  (dSeq (dAsg (dTup (dCons (dOp dDiv (dOp dMul (dVar 1) (dOp dAdd (dVar 1) (fun _ => M.ok (.int 1)))) (fun _ => M.ok (.int 2))) (dCons (dCall (bOne tupleD) (dCons (dLc (dRng1 (dCons (dVar 1) (fun _ => M.ok []))) (dName 11) (fun _ => M.ok true) (dOp dSub (dCallP f_law_draw (dCons (dVar 0) (dCons (fun _ => M.ok (.int 9)) (fun _ => M.ok [])))) (fun _ => M.ok (.int 4))) [11]) (fun _ => M.ok []))) (fun _ => M.ok [])))) (dGTup 2 (dGCons (dName 2) (dGCons (dName 3) dGNil))))
    (dSeq (dAsg (dCallP f_law_pick (dCons (dVar 0) (dCons (dLst (dCons (fun _ => M.ok .non) (dCons (fun _ => M.ok (.int 7)) (dCons (dCall (bOne listD) (dCons (dVar 3) (fun _ => M.ok []))) (dCons (dOp dMul (dVar 3) (fun _ => M.ok (.int 4))) (dCons (dTup (fun _ => M.ok [])) (dCons (dOp dAdd (dTup (dCons (fun _ => M.ok (.bl true)) (fun _ => M.ok []))) (dSl (dVar 3) (dPart (fun _ => M.ok (.int 1))) (fun _ => M.ok none))) (dCons (dOp dAdd (dTup (dCons (fun _ => M.ok (.str "0")) (fun _ => M.ok []))) (dSl (dVar 3) (dPart (fun _ => M.ok (.int 1))) (fun _ => M.ok none))) (dCons (dOp dAdd (dSl (dVar 3) (fun _ => M.ok none) (dPart (dUn dNeg (fun _ => M.ok (.int 1))))) (dTup (dCons (dOp dPow (fun _ => M.ok (.int 10)) (fun _ => M.ok (.int 12))) (fun _ => M.ok [])))) (dCons (fun _ => M.ok (.dct [] [])) (fun _ => M.ok []))))))))))) (fun _ => M.ok [])))) (dName 4))
    (dSeq (dAsg (dCallP f_law_pick (dCons (dVar 0) (dCons (dLst (dCons (dOp dAdd (dVar 3) (dTup (dCons (fun _ => M.ok (.int 1)) (fun _ => M.ok [])))) (dCons (dSl (dVar 3) (dPart (fun _ => M.ok (.int 1))) (fun _ => M.ok none)) (dCons (dCall (bOne listD) (dCons (dVar 3) (fun _ => M.ok []))) (dCons (fun _ => M.ok .non) (dCons (dOp dAdd (dSl (dVar 3) (fun _ => M.ok none) (dPart (dUn dNeg (fun _ => M.ok (.int 1))))) (dTup (dCons (dOp dSub (fun _ => M.ok (.int 0)) (dOp dPow (fun _ => M.ok (.int 10)) (fun _ => M.ok (.int 12)))) (fun _ => M.ok [])))) (dCons (dOp dAdd (dSl (dVar 3) (fun _ => M.ok none) (dPart (dUn dNeg (fun _ => M.ok (.int 1))))) (dTup (dCons (fun _ => M.ok (.bl false)) (fun _ => M.ok [])))) (fun _ => M.ok [])))))))) (fun _ => M.ok [])))) (dName 5))
    (dSeq (dAsg (dCall (bOne tupleD) (dCons (dLc (dRng1 (dCons (dVar 2) (fun _ => M.ok []))) (dName 11) (fun _ => M.ok true) (dCallP f_law_number (dCons (dVar 0) (fun _ => M.ok []))) [11]) (fun _ => M.ok []))) (dName 6))
    (dSeq (dAsg (dCallP f_law_pick (dCons (dVar 0) (dCons (dLst (dCons (fun _ => M.ok .non) (dCons (fun _ => M.ok (.int 3)) (dCons (dCall (bOne listD) (dCons (dVar 6) (fun _ => M.ok []))) (dCons (dOp dAdd (dVar 6) (dTup (dCons (fun _ => M.ok (.int 0)) (fun _ => M.ok [])))) (dCons (dOp dAdd (dSl (dVar 6) (fun _ => M.ok none) (dPart (dUn dNeg (fun _ => M.ok (.int 1))))) (dTup (dCons (fun _ => M.ok (.bl true)) (fun _ => M.ok [])))) (dCons (dOp dMul (dTup (dCons (fun _ => M.ok (.int 0)) (fun _ => M.ok []))) (fun _ => M.ok (.int 4))) (dCons (dOp dMul (dTup (dCons (fun _ => M.ok (.int 0)) (fun _ => M.ok []))) (fun _ => M.ok (.int 2))) (dCons (dTup (fun _ => M.ok [])) (dCons (dOp dAdd (dSl (dVar 6) (fun _ => M.ok none) (dPart (dUn dNeg (fun _ => M.ok (.int 1))))) (dTup (dCons (fun _ => M.ok (.str "1")) (fun _ => M.ok [])))) (fun _ => M.ok []))))))))))) (fun _ => M.ok [])))) (dName 7))
    (dSeq (dAsg (dLst (dCons (dLam hm_law_heard (dCall f_line (dCons (dVar 4) (dCons (dVar 5) (fun _ => M.ok []))))) (dCons (dLam hm_law_heard (dCall f_line (dCons (dVar 4) (dCons (dVar 3) (fun _ => M.ok []))))) (dCons (dLam hm_law_heard (dCall f_line (dCons (dVar 3) (dCons (dVar 5) (fun _ => M.ok []))))) (fun _ => M.ok []))))) (dName 8))
    (dSeq (dIfS (dTest (dOp dNe (dVar 8) (dOp dAdd (dOp dMul (dLst (dCons (dTup (dCons (fun _ => M.ok (.str "BadNumber")) (dCons (fun _ => M.ok (.str "one")) (fun _ => M.ok [])))) (fun _ => M.ok []))) (fun _ => M.ok (.int 2))) (dLst (dCons (dTup (dCons (fun _ => M.ok (.str "BadNumber")) (dCons (fun _ => M.ok (.str "other")) (fun _ => M.ok [])))) (fun _ => M.ok [])))))) (dRet (fun _ => M.ok (.bl false))) (fun ρ => M.ok (.nx ρ)))
    (dSeq (dAsg (dLst (dCons (dLam hm_law_heard (dCall f_speed (dCons (dVar 7) (dCons (dVar 5) (fun _ => M.ok []))))) (dCons (dLam hm_law_heard (dCall f_speed (dCons (dVar 7) (dCons (dVar 3) (fun _ => M.ok []))))) (dCons (dLam hm_law_heard (dCall f_speed (dCons (dVar 6) (dCons (dVar 5) (fun _ => M.ok []))))) (fun _ => M.ok []))))) (dName 8))
    (dSeq (dIfS (dTest (dOp dNe (dVar 8) (dOp dAdd (dOp dMul (dLst (dCons (dTup (dCons (fun _ => M.ok (.str "BadNumber")) (dCons (fun _ => M.ok (.str "motion")) (fun _ => M.ok [])))) (fun _ => M.ok []))) (fun _ => M.ok (.int 2))) (dLst (dCons (dTup (dCons (fun _ => M.ok (.str "BadNumber")) (dCons (fun _ => M.ok (.str "point")) (fun _ => M.ok [])))) (fun _ => M.ok [])))))) (dRet (fun _ => M.ok (.bl false))) (fun ρ => M.ok (.nx ρ)))
    (dSeq (dAsg (dTup (dCons (dCallP f_law_pick (dCons (dVar 0) (dCons (dLst (dCons (fun _ => M.ok (.int 0)) (dCons (fun _ => M.ok (.int 4)) (dCons (dUn dNeg (fun _ => M.ok (.int 1))) (dCons (fun _ => M.ok (.bl true)) (dCons (fun _ => M.ok .non) (dCons (fun _ => M.ok (.str "2")) (dCons (dTup (dCons (fun _ => M.ok (.int 2)) (fun _ => M.ok []))) (dCons (dOp dPow (fun _ => M.ok (.int 10)) (fun _ => M.ok (.int 30))) (fun _ => M.ok [])))))))))) (fun _ => M.ok [])))) (dCons (dCallP f_law_pick (dCons (dVar 0) (dCons (dLst (dCons (fun _ => M.ok (.str "Rod")) (dCons (fun _ => M.ok (.str "")) (dCons (fun _ => M.ok .non) (dCons (fun _ => M.ok (.int 5)) (dCons (fun _ => M.ok (.str "rods")) (dCons (dTup (dCons (fun _ => M.ok (.str "rod")) (fun _ => M.ok []))) (dCons (fun _ => M.ok (.str "hinge.")) (fun _ => M.ok []))))))))) (fun _ => M.ok [])))) (fun _ => M.ok [])))) (dGTup 2 (dGCons (dName 9) (dGCons (dName 10) dGNil))))
    (dSeq (dAsg (dLst (dCons (dLam hm_law_heard (dCall f_is_point (dCons (dVar 9) (dCons (dVar 3) (fun _ => M.ok []))))) (dCons (dLam hm_law_heard (dCall f_is_spot (dCons (dVar 9) (dCons (dVar 10) (dCons (dTup (fun _ => M.ok [])) (fun _ => M.ok [])))))) (dCons (dLam hm_law_heard (dCall f_is_spot (dCons (dVar 1) (dCons (dVar 10) (dCons (dTup (fun _ => M.ok [])) (fun _ => M.ok [])))))) (fun _ => M.ok []))))) (dName 8))
    (dSeq (dIfS (dTest (dOp dNe (dVar 8) (dLst (dCons (dTup (dCons (fun _ => M.ok (.str "BadDimension")) (dCons (dVar 9) (fun _ => M.ok [])))) (dCons (dTup (dCons (fun _ => M.ok (.str "BadDimension")) (dCons (dVar 9) (fun _ => M.ok [])))) (dCons (dTup (dCons (fun _ => M.ok (.str "BadName")) (dCons (dVar 10) (fun _ => M.ok [])))) (fun _ => M.ok []))))))) (dRet (fun _ => M.ok (.bl false))) (fun ρ => M.ok (.nx ρ)))
    (dSeq (dIfS (dTNot (dTest (dOp dEq (dLam hm_law_heard (dCall f_is_spot (dCons (fun _ => M.ok (.int 1)) (dCons (fun _ => M.ok (.str "hinge")) (dCons (dTup (fun _ => M.ok [])) (fun _ => M.ok [])))))) (dTup (dCons (fun _ => M.ok (.str "BadName")) (dCons (fun _ => M.ok (.str "hinge")) (fun _ => M.ok []))))))) (dRet (fun _ => M.ok (.bl false))) (fun ρ => M.ok (.nx ρ)))
    (dRet (dOp (dIs false) (dLam hm_law_heard (dCall f_is_spot (dCons (fun _ => M.ok (.int 2)) (dCons (fun _ => M.ok (.str "hinge")) (dCons (dTup (fun _ => M.ok [])) (fun _ => M.ok [])))))) (fun _ => M.ok .non))))))))))))))))
def f_law_refused : List D → M D := defD 2 12 m_law_refused
def sp_law_refused (K : PySem.W.Frag) : Sp := spP K (tabs K) f_law_refused
def mr_law : En → M Out := (dSeq (dFor (dRng1 (dCons (fun _ => M.ok (.int 4)) (fun _ => M.ok []))) (dName 2) (dFor (dIt (dTup (dCons (fun _ => M.ok (.int 1)) (dCons (fun _ => M.ok (.int 2)) (dCons (fun _ => M.ok (.int 3)) (fun _ => M.ok [])))))) (dName 3) (dIfS (dTOr (dTNot (dTest (dCallP f_law_looks_right (dCons (dVar 1) (dCons (dVar 3) (fun _ => M.ok [])))))) (dTOr (dTNot (dTest (dCallP f_law_numbers_right (dCons (dVar 1) (dCons (dVar 3) (fun _ => M.ok [])))))) (dTNot (dTest (dCallP f_law_refused (dCons (dVar 1) (dCons (dVar 3) (fun _ => M.ok [])))))))) (dRet (fun _ => M.ok (.bl false))) (fun ρ => M.ok (.nx ρ)))))
    (dSeq (dAsg (dLst (dCons (dCallP f_coordinate (dCons (fun _ => M.ok (.int 999999999999)) (fun _ => M.ok []))) (dCons (dCallP f_coordinate (dCons (dUn dNeg (fun _ => M.ok (.int 999999999999))) (fun _ => M.ok []))) (dCons (dCallP f_coordinate (dCons (dOp dPow (fun _ => M.ok (.int 10)) (fun _ => M.ok (.int 12))) (fun _ => M.ok []))) (dCons (dCallP f_coordinate (dCons (dOp dSub (fun _ => M.ok (.int 0)) (dOp dPow (fun _ => M.ok (.int 10)) (fun _ => M.ok (.int 12)))) (fun _ => M.ok []))) (fun _ => M.ok [])))))) (dName 4))
    (dRet (dOp dEq (dVar 4) (dLst (dCons (fun _ => M.ok (.bl true)) (dCons (fun _ => M.ok (.bl true)) (dCons (fun _ => M.ok (.bl false)) (dCons (fun _ => M.ok (.bl false)) (fun _ => M.ok []))))))))))
def sp_law (K : PySem.W.Frag) : Sp := fun vs H Q _ => ∃ (a : Addr) (ns : List Int), vs = [.ref a] ∧ SqL K H a (ns.map V.int) ∧ ns.length ≤ 63 ∧ LamX.Tabs (tabs K) H ∧ ∀ H', Q (.bl true) H'
def startL : En := [none, some .pen, none, none, none]
/-- what is left to be shown -/
def LawOk : Prop := ∀ cells : List Int, cells.length ≤ 63 → ∃ s', mr_law startL ⟨cells, 0, 0⟩ = .ok (.rt (.bl true)) s'

end
end GW
namespace GW
section
open PySem PyProof.Rows L2
def top (i : Nat) : Stmt := PySem.Challenge.pw_givesway_k24_points_lines_and_speeds.main.body.getD i (.Pass ⟨0, 0, 0, 0⟩)
abbrev s_is_integer : Stmt := top 1
abbrev n_is_integer : List Str := ["value"]
theorem sc_is_integer : FnScope n_is_integer ["value"] (defScope s_is_integer) := ⟨rfl, rfl, rfl, by decide +kernel, rfl, by decide +kernel, by decide +kernel⟩
def t_is_integer (K : PySem.W.Frag) : TS := (tRet (mAnd (tCB (rIs1 K .int) (tCons (mVar 0) (tCons (tC (.ty "int")) tNil))) (mNot (tCB (rIs1 K .bl) (tCons (mVar 0) (tCons (tC (.ty "bool")) tNil))))))
abbrev s_BadDimension : Stmt := (clsBody (top 5)).getD 0 (.Pass ⟨0, 0, 0, 0⟩)
abbrev n_BadDimension : List Str := ["self", "value"]
theorem sc_BadDimension : FnScope n_BadDimension ["self", "value"] (defScope s_BadDimension) := ⟨rfl, rfl, rfl, by decide +kernel, rfl, by decide +kernel, by decide +kernel⟩
def t_BadDimension (K : PySem.W.Frag) : TS := (tOst K "value" (mVar 0) (mVar 1))
abbrev s_BadName : Stmt := (clsBody (top 6)).getD 0 (.Pass ⟨0, 0, 0, 0⟩)
abbrev n_BadName : List Str := ["self", "value"]
theorem sc_BadName : FnScope n_BadName ["self", "value"] (defScope s_BadName) := ⟨rfl, rfl, rfl, by decide +kernel, rfl, by decide +kernel, by decide +kernel⟩
def t_BadName (K : PySem.W.Frag) : TS := (tOst K "value" (mVar 0) (mVar 1))
abbrev s_BadNumber : Stmt := (clsBody (top 8)).getD 0 (.Pass ⟨0, 0, 0, 0⟩)
abbrev n_BadNumber : List Str := ["self", "part"]
theorem sc_BadNumber : FnScope n_BadNumber ["self", "part"] (defScope s_BadNumber) := ⟨rfl, rfl, rfl, by decide +kernel, rfl, by decide +kernel, by decide +kernel⟩
def t_BadNumber (K : PySem.W.Frag) : TS := (tOst K "part" (mVar 0) (mVar 1))
abbrev s_kinds_in : Stmt := top 13
abbrev n_kinds_in : List Str := ["dimension"]
theorem sc_kinds_in : FnScope n_kinds_in ["dimension"] (defScope s_kinds_in) := ⟨rfl, rfl, rfl, by decide +kernel, rfl, by decide +kernel, by decide +kernel⟩
def t_kinds_in (K : PySem.W.Frag) : TS := (tRet (tIf (mTest (tOp oGt (mVar 0) (tC (.int 1)))) (tC (.ref (He.ga K "KINDS"))) (tSl (oSl K) (tC (.ref (He.ga K "KINDS"))) (mPart (tC (.int 1))) tNoPart)))
abbrev s_points_in : Stmt := top 18
abbrev n_points_in : List Str := ["dimension", "kind"]
theorem sc_points_in : FnScope n_points_in ["dimension", "kind"] (defScope s_points_in) := ⟨rfl, rfl, rfl, by decide +kernel, rfl, by decide +kernel, by decide +kernel⟩
def t_points_in (K : PySem.W.Frag) : TS := (tRet (tOp (oIx K) (tDisp (((tC (.str "rod")), (tC (.int 2))) :: (((tC (.str "hinge")), (tOp oSub (mVar 0) (tC (.int 1)))) :: (((tC (.str "weld")), (tC (.int 0))) :: [])))) (mVar 1)))
abbrev s_speed_rows : Stmt := top 20
abbrev n_speed_rows : List Str := ["point", "x", "y", "z"]
theorem sc_speed_rows : FnScope n_speed_rows ["point"] (defScope s_speed_rows) := ⟨rfl, rfl, rfl, by decide +kernel, rfl, by decide +kernel, by decide +kernel⟩
def t_speed_rows (K : PySem.W.Frag) : TS := (tSeq (tIfS (mTest (tOp (oEq K) (tCB (rLenU K) (tCons (mVar 0) tNil)) (tC (.int 1)))) (tRet (tLst (tCons (tTup (tCons (tC (.int 1)) tNil)) tNil))) tNext)
    (tSeq (tIfS (mTest (tOp (oEq K) (tCB (rLenU K) (tCons (mVar 0) tNil)) (tC (.int 2)))) (tRet (tLst (tCons (tTup (tCons (tC (.int 1)) (tCons (tC (.int 0)) (tCons (tUn oNeg (tOp (oIx K) (mVar 0) (tC (.int 1)))) tNil)))) (tCons (tTup (tCons (tC (.int 0)) (tCons (tC (.int 1)) (tCons (tOp (oIx K) (mVar 0) (tC (.int 0))) tNil)))) tNil)))) tNext)
    (tSeq (tAsg (mVar 0) (gTup K 3 (gCons (gName 1) (gCons (gName 2) (gCons (gName 3) gNil)))))
    (tRet (tLst (tCons (tTup (tCons (tC (.int 1)) (tCons (tC (.int 0)) (tCons (tC (.int 0)) (tCons (tC (.int 0)) (tCons (mVar 3) (tCons (tUn oNeg (mVar 2)) tNil))))))) (tCons (tTup (tCons (tC (.int 0)) (tCons (tC (.int 1)) (tCons (tC (.int 0)) (tCons (tUn oNeg (mVar 3)) (tCons (tC (.int 0)) (tCons (mVar 1) tNil))))))) (tCons (tTup (tCons (tC (.int 0)) (tCons (tC (.int 0)) (tCons (tC (.int 1)) (tCons (mVar 2) (tCons (tUn oNeg (mVar 1)) (tCons (tC (.int 0)) tNil))))))) tNil))))))))
abbrev s_times : Stmt := top 21
abbrev n_times : List Str := ["one", "other", "mine", "its"]
theorem sc_times : FnScope n_times ["one", "other"] (defScope s_times) := ⟨rfl, rfl, rfl, by decide +kernel, rfl, by decide +kernel, by decide +kernel⟩
def t_times (K : PySem.W.Frag) : TS := (tRet (tCB (rSumU K) (tCons (tLc (RZ.iZipA K (tCons (mVar 0) (tCons (mVar 1) tNil))) (gTup K 2 (gCons (gName 2) (gCons (gName 3) gNil))) tYes (tOp (oMulU K) (mVar 2) (mVar 3)) [2, 3]) tNil)))
abbrev s_law_pen : Stmt := top 32
abbrev n_law_pen : List Str := ["script", "cell"]
theorem sc_law_pen : FnScope n_law_pen ["script"] (defScope s_law_pen) := ⟨rfl, rfl, rfl, by decide +kernel, rfl, by decide +kernel, by decide +kernel⟩
def t_law_pen (K : PySem.W.Frag) : TS := (tRet (tLst (tCons (tLc (iU K (tSl (oSl K) (mVar 0) tNoPart (mPart (tC (.int 60))))) (gName 1) tYes (tCB rIntU (tCons (mVar 1) tNil)) [1]) (tCons (tC (.int 0)) (tCons (tC (.int 0)) tNil)))))
abbrev s_law_draw : Stmt := top 33
abbrev n_law_draw : List Str := ["pen", "many", "rest", "at", "cell", "mixed"]
theorem sc_law_draw : FnScope n_law_draw ["pen", "many"] (defScope s_law_draw) := ⟨rfl, rfl, rfl, by decide +kernel, rfl, by decide +kernel, by decide +kernel⟩
def t_law_draw (K : PySem.W.Frag) : TS := (tSeq (tIfS (mTest (tOp oGt (tOp (oIx K) (mVar 0) (tC (.int 2))) (tC (.int 0)))) (tSeq (tAsg (tOp (oIx K) (mVar 0) (tC (.int 2))) (gName 2))
    (tSeq (tAsg (tOp oDiv (tCB rIntU (tCons (mVar 2) tNil)) (mVar 1)) (gSub (mVar 0) (tC (.int 2)) (oSet K)))
    (tRet (tOp oMod (tCB rIntU (tCons (mVar 2) tNil)) (mVar 1))))) tNext)
    (tSeq (tAsg (tOp (oIx K) (mVar 0) (tC (.int 1))) (gName 3))
    (tSeq (tAsg (tOp (oAddT K) (mVar 3) (tC (.int 1))) (gSub (mVar 0) (tC (.int 1)) (oSet K)))
    (tSeq (tAsg (tOp (oAddT K) (tOp (oMulU K) (tC (.int 50021)) (mVar 3)) (tC (.int 7127))) (gName 4))
    (tSeq (tIfS (mTest (tOp (oNe K) (tOp (oIx K) (mVar 0) (tC (.int 0))) (tLst tNil))) (tAsg (tOp (oIx K) (tOp (oIx K) (mVar 0) (tC (.int 0))) (tOp oMod (tCB rIntU (tCons (mVar 3) tNil)) (tCB (rLenU K) (tCons (tOp (oIx K) (mVar 0) (tC (.int 0))) tNil)))) (gName 4)) tNext)
    (tSeq (tIfS (tAnd (mTest (tOp oLt (mVar 3) (tCB (rLenU K) (tCons (tOp (oIx K) (mVar 0) (tC (.int 0))) tNil)))) (mTest (tOp oGe (tCB rAbsU (tCons (mVar 4) tNil)) (tOp oPow (tC (.int 10)) (tC (.int 18)))))) (tSeq (tAsg (tOp (oAddT K) (tOp (oMulU K) (tC (.int 2)) (tOp oSub (tCB rAbsU (tCons (mVar 4) tNil)) (tOp oPow (tC (.int 10)) (tC (.int 18))))) (tCB rIntU (tCons (tOp oLt (mVar 4) (tC (.int 0))) tNil))) (gName 2))
    (tSeq (tAsg (tOp oDiv (tCB rIntU (tCons (mVar 2) tNil)) (mVar 1)) (gSub (mVar 0) (tC (.int 2)) (oSet K)))
    (tRet (tOp oMod (tCB rIntU (tCons (mVar 2) tNil)) (mVar 1))))) tNext)
    (tSeq (tAsg (tOp oMod (tCB rIntU (tCons (tOp oPow (tOp (oAddT K) (tOp (oAddT K) (tOp oMod (tCB rIntU (tCons (mVar 4) tNil)) (tC (.int 2147483587))) (tOp (oMulU K) (tC (.int 50021)) (mVar 3))) (tC (.int 7127))) (tC (.int 5))) tNil)) (tC (.int 2147483549))) (gName 5))
    (tSeq (tAsg (tOp oMod (tCB rIntU (tCons (tOp oPow (tOp (oAddT K) (tOp (oAddT K) (tOp (oMulU K) (mVar 5) (tOp (oAddT K) (tOp (oMulU K) (tC (.int 2)) (mVar 3)) (tC (.int 7127)))) (tOp (oMulU K) (tOp (oMulU K) (tC (.int 33091)) (mVar 3)) (mVar 3))) (tC (.int 50021))) (tC (.int 3))) tNil)) (tC (.int 2147483647))) (gName 5))
    (tRet (tOp oMod (tCB rIntU (tCons (tOp oDiv (mVar 5) (tC (.int 64))) tNil)) (mVar 1)))))))))))
abbrev s_law_speed : Stmt := top 35
abbrev n_law_speed : List Str := ["motion", "point", "first", "second"]
theorem sc_law_speed : FnScope n_law_speed ["motion", "point"] (defScope s_law_speed) := ⟨rfl, rfl, rfl, by decide +kernel, rfl, by decide +kernel, by decide +kernel⟩
def t_law_speed (K : PySem.W.Frag) : TS := (tSeq (tIfS (mTest (tOp (oEq K) (tCB (rLenU K) (tCons (mVar 1) tNil)) (tC (.int 1)))) (tRet (tLst (tCons (tOp (oIx K) (mVar 0) (tC (.int 0))) tNil))) tNext)
    (tSeq (tIfS (mTest (tOp (oEq K) (tCB (rLenU K) (tCons (mVar 1) tNil)) (tC (.int 2)))) (tRet (tLst (tCons (tOp oSub (tOp (oIx K) (mVar 0) (tC (.int 0))) (tOp (oMulU K) (tOp (oIx K) (mVar 0) (tC (.int 2))) (tOp (oIx K) (mVar 1) (tC (.int 1))))) (tCons (tOp (oAddT K) (tOp (oIx K) (mVar 0) (tC (.int 1))) (tOp (oMulU K) (tOp (oIx K) (mVar 0) (tC (.int 2))) (tOp (oIx K) (mVar 1) (tC (.int 0))))) tNil)))) tNext)
    (tSeq (tAsg (tOp oSub (tOp (oAddT K) (tOp (oIx K) (mVar 0) (tC (.int 0))) (tOp (oMulU K) (tOp (oIx K) (mVar 0) (tC (.int 4))) (tOp (oIx K) (mVar 1) (tC (.int 2))))) (tOp (oMulU K) (tOp (oIx K) (mVar 0) (tC (.int 5))) (tOp (oIx K) (mVar 1) (tC (.int 1))))) (gName 2))
    (tSeq (tAsg (tOp oSub (tOp (oAddT K) (tOp (oIx K) (mVar 0) (tC (.int 1))) (tOp (oMulU K) (tOp (oIx K) (mVar 0) (tC (.int 5))) (tOp (oIx K) (mVar 1) (tC (.int 0))))) (tOp (oMulU K) (tOp (oIx K) (mVar 0) (tC (.int 3))) (tOp (oIx K) (mVar 1) (tC (.int 2))))) (gName 3))
    (tRet (tLst (tCons (mVar 2) (tCons (mVar 3) (tCons (tOp oSub (tOp (oAddT K) (tOp (oIx K) (mVar 0) (tC (.int 2))) (tOp (oMulU K) (tOp (oIx K) (mVar 0) (tC (.int 3))) (tOp (oIx K) (mVar 1) (tC (.int 1))))) (tOp (oMulU K) (tOp (oIx K) (mVar 0) (tC (.int 4))) (tOp (oIx K) (mVar 1) (tC (.int 0))))) tNil)))))))))
abbrev s_law_units : Stmt := top 36
abbrev n_law_units : List Str := ["width", "spot", "at"]
theorem sc_law_units : FnScope n_law_units ["width"] (defScope s_law_units) := ⟨rfl, rfl, rfl, by decide +kernel, rfl, by decide +kernel, by decide +kernel⟩
def t_law_units (K : PySem.W.Frag) : TS := (tRet (tLc (iRng1 (tCons (mVar 0) tNil)) (gName 1) tYes (tLc (iRng1 (tCons (mVar 0) tNil)) (gName 2) tYes (tCB rIntU (tCons (tOp (oEq K) (mVar 2) (mVar 1)) tNil)) [2]) [1]))
abbrev s_law_heard : Stmt := top 37
abbrev n_law_heard : List Str := ["ask", "caught", "some", "error"]
theorem sc_law_heard : FnScope n_law_heard ["ask"] (defScope s_law_heard) := ⟨rfl, rfl, rfl, by decide +kernel, rfl, by decide +kernel, by decide +kernel⟩
def t_law_heard (K : PySem.W.Frag) (f c' : Addr) (q : Str) (T : XK → Hp → VK → Prop) : TS := (tSeq (tPar 1 2 (tCons (tC .non) (tCons (tLst tNil) tNil)))
    (tSeq (fun D σ H => (fun W : WX => (tDrop (mAct 0 f c' q T W))) (wKept K (.ref (He.ga K "GiveError")) 3 (fun a cls d => (tAsg (mVar 3) (gName 1))) (fun _ _ _ _ => False) D) D σ H)
    (tSeq (tIfS (mTest (tOp (oIs false) (mVar 1) (tC .non))) (tRet (tC .non)) tNext)
    (tSeq (tIfS (mTest (tCB (rIsX K) (tCons (mVar 1) (tCons (tC (.ref (He.ga K "BadDimension"))) tNil)))) (tDrop (tBM K "list" rAppend (mVar 2) (tCons (tTup (tCons (tC (.str "BadDimension")) (tCons (mXf K "value" (mVar 1)) tNil))) tNil))) tNext)
    (tSeq (tIfS (mTest (tCB (rIsX K) (tCons (mVar 1) (tCons (tC (.ref (He.ga K "BadName"))) tNil)))) (tDrop (tBM K "list" rAppend (mVar 2) (tCons (tTup (tCons (tC (.str "BadName")) (tCons (mXf K "value" (mVar 1)) tNil))) tNil))) tNext)
    (tSeq (tIfS (mTest (tCB (rIsX K) (tCons (mVar 1) (tCons (tC (.ref (He.ga K "BadNumber"))) tNil)))) (tDrop (tBM K "list" rAppend (mVar 2) (tCons (tTup (tCons (tC (.str "BadNumber")) (tCons (mXf K "part" (mVar 1)) tNil))) tNil))) tNext)
    (tSeq (tIfS (mTest (tCB (rIsX K) (tCons (mVar 1) (tCons (tC (.ref (He.ga K "NoTie"))) tNil)))) (tDrop (tBM K "list" rAppend (mVar 2) (tCons (tTup (tCons (tC (.str "NoTie")) (tCons (mXf K "value" (mVar 1)) tNil))) tNil))) tNext)
    (tSeq (tIfS (mTest (tCB (rIsX K) (tCons (mVar 1) (tCons (tC (.ref (He.ga K "TooMany"))) tNil)))) (tDrop (tBM K "list" rAppend (mVar 2) (tCons (tTup (tCons (tC (.str "TooMany")) (tCons (mXf K "what" (mVar 1)) (tCons (mXf K "most" (mVar 1)) tNil)))) tNil))) tNext)
    (tRet (tIf (mTest (tOp (oEq K) (tCB (rLenU K) (tCons (mVar 2) tNil)) (tC (.int 1)))) (tOp (oIx K) (mVar 2) (tC (.int 0))) (tTup (tCons (tC (.str "odd")) tNil))))))))))))
abbrev s_law_says : Stmt := top 38
abbrev n_law_says : List Str := ["value", "due"]
theorem sc_law_says : FnScope n_law_says ["value", "due"] (defScope s_law_says) := ⟨rfl, rfl, rfl, by decide +kernel, rfl, by decide +kernel, by decide +kernel⟩
def t_law_says (K : PySem.W.Frag) : TS := (tRet (tIf (mTru K (mVar 1)) (tOp (oIs false) (mVar 0) (tC (.bl true))) (tOp (oIs false) (mVar 0) (tC (.bl false)))))
abbrev s_law_is_coordinate : Stmt := top 41
abbrev n_law_is_coordinate : List Str := ["value"]
theorem sc_law_is_coordinate : FnScope n_law_is_coordinate ["value"] (defScope s_law_is_coordinate) := ⟨rfl, rfl, rfl, by decide +kernel, rfl, by decide +kernel, by decide +kernel⟩
def t_law_is_coordinate (K : PySem.W.Frag) : TS := (tRet (mAnd (tCB (rIs1 K .int) (tCons (mVar 0) (tCons (tC (.ty "int")) tNil))) (mAnd (mNot (tCB (rIs1 K .bl) (tCons (mVar 0) (tCons (tC (.ty "bool")) tNil)))) (tOp oLt (tCB rAbsU (tCons (mVar 0) tNil)) (tOp oPow (tC (.int 10)) (tC (.int 12)))))))
abbrev s_law_same : Stmt := top 44
abbrev n_law_same : List Str := ["value", "due", "at"]
theorem sc_law_same : FnScope n_law_same ["value", "due"] (defScope s_law_same) := ⟨rfl, rfl, rfl, by decide +kernel, rfl, by decide +kernel, by decide +kernel⟩
def t_law_same (K : PySem.W.Frag) : TS := (tSeq (tIfS (tOr (tNot (mTest (tCB (rIs1 K .tup) (tCons (mVar 0) (tCons (tC (.ty "tuple")) tNil))))) (mTest (tOp (oNe K) (tCB (rLenU K) (tCons (mVar 0) tNil)) (tCB (rLenU K) (tCons (mVar 1) tNil))))) (tRet (tC (.bl false))) tNext)
    (tRet (tCB (rAllU K) (tCons (tLc (iRng1 (tCons (tCB (rLenU K) (tCons (mVar 1) tNil)) tNil)) (gName 2) tYes (mAnd (tCB (rIs1 K .int) (tCons (tOp (oIx K) (mVar 0) (mVar 2)) (tCons (tC (.ty "int")) tNil))) (mAnd (mNot (tCB (rIs1 K .bl) (tCons (tOp (oIx K) (mVar 0) (mVar 2)) (tCons (tC (.ty "bool")) tNil)))) (tOp (oEq K) (tOp (oIx K) (mVar 0) (mVar 2)) (tOp (oIx K) (mVar 1) (mVar 2))))) [2]) tNil))))
abbrev s_is_within : Stmt := top 2
abbrev n_is_within : List Str := ["value", "least", "most"]
theorem sc_is_within : FnScope n_is_within ["value", "least", "most"] (defScope s_is_within) := ⟨rfl, rfl, rfl, by decide +kernel, rfl, by decide +kernel, by decide +kernel⟩
def t_is_within (K : PySem.W.Frag) : TS := (tRet (mAnd (tCall (sp_is_integer K) [] E0 (tCons (mVar 0) tNil)) (mChain oLe oLe (mVar 1) (mVar 0) (mVar 2))))
abbrev s_line_between : Stmt := top 22
abbrev n_line_between : List Str := ["one", "other", "ahead", "told", "mine", "its", "spot", "at", "row"]
theorem sc_line_between : FnScope n_line_between ["one", "other"] (defScope s_line_between) := ⟨rfl, rfl, rfl, by decide +kernel, rfl, by decide +kernel, by decide +kernel⟩
def t_line_between (K : PySem.W.Frag) : TS := (tSeq (tAsg (tLc (RZ.iZipA K (tCons (mVar 0) (tCons (mVar 1) tNil))) (gTup K 2 (gCons (gName 4) (gCons (gName 5) gNil))) tYes (tOp oSub (mVar 5) (mVar 4)) [4, 5]) (gName 2))
    (tSeq (tAsg (tCall (sp_speed_rows K) [] E0 (tCons (mVar 0) tNil)) (gName 3))
    (tRet (tCB (rTupU K) (tCons (tLc (iRng1 (tCons (tCB (rLenU K) (tCons (tOp (oIx K) (mVar 3) (tC (.int 0))) tNil)) tNil)) (gName 6) tYes (tCB (rSumU K) (tCons (tLc (iEnum K (tCons (mVar 3) tNil)) (gTup K 2 (gCons (gName 7) (gCons (gName 8) gNil))) tYes (tOp (oMulU K) (tOp (oIx K) (mVar 2) (mVar 7)) (tOp (oIx K) (mVar 8) (mVar 6))) [7, 8]) tNil)) [6]) tNil)))))
abbrev s_is_small_motion : Stmt := top 29
abbrev n_is_small_motion : List Str := ["width", "value", "part"]
theorem sc_is_small_motion : FnScope n_is_small_motion ["width", "value"] (defScope s_is_small_motion) := ⟨rfl, rfl, rfl, by decide +kernel, rfl, by decide +kernel, by decide +kernel⟩
def t_is_small_motion (K : PySem.W.Frag) : TS := (tRet (mAnd (tCB (rIs1 K .tup) (tCons (mVar 1) (tCons (tC (.ty "tuple")) tNil))) (mAnd (tOp (oEq K) (tCB (rLenU K) (tCons (mVar 1) tNil)) (mVar 0)) (tCB (rAllU K) (tCons (tLc (iU K (mVar 1)) (gName 2) tYes (tCall (sp_is_integer K) [] E0 (tCons (mVar 2) tNil)) [2]) tNil)))))
abbrev s_law_pick : Stmt := top 34
abbrev n_law_pick : List Str := ["pen", "some"]
theorem sc_law_pick : FnScope n_law_pick ["pen", "some"] (defScope s_law_pick) := ⟨rfl, rfl, rfl, by decide +kernel, rfl, by decide +kernel, by decide +kernel⟩
def t_law_pick (K : PySem.W.Frag) : TS := (tRet (tOp (oIx K) (mVar 1) (tCall (sp_law_draw K) [] E0 (tCons (mVar 0) (tCons (tCB (rLenU K) (tCons (mVar 1) tNil)) tNil)))))
abbrev s_law_is_point : Stmt := top 42
abbrev n_law_is_point : List Str := ["dimension", "value", "part"]
theorem sc_law_is_point : FnScope n_law_is_point ["dimension", "value"] (defScope s_law_is_point) := ⟨rfl, rfl, rfl, by decide +kernel, rfl, by decide +kernel, by decide +kernel⟩
def t_law_is_point (K : PySem.W.Frag) : TS := (tRet (mAnd (tCB (rIs1 K .tup) (tCons (mVar 1) (tCons (tC (.ty "tuple")) tNil))) (mAnd (tOp (oEq K) (tCB (rLenU K) (tCons (mVar 1) tNil)) (mVar 0)) (tCB (rAllU K) (tCons (tLc (iU K (mVar 1)) (gName 2) tYes (tCall (sp_law_is_coordinate K) [] E0 (tCons (mVar 2) tNil)) [2]) tNil)))))
abbrev s_coordinate : Stmt := top 24
abbrev n_coordinate : List Str := ["value"]
theorem sc_coordinate : FnScope n_coordinate ["value"] (defScope s_coordinate) := ⟨rfl, rfl, rfl, by decide +kernel, rfl, by decide +kernel, by decide +kernel⟩
def t_coordinate (K : PySem.W.Frag) : TS := (tRet (tCall (sp_is_within K) [] E0 (tCons (mVar 0) (tCons (tUn oNeg (tC (.int 999999999999))) (tCons (tC (.int 999999999999)) tNil)))))
abbrev s_need_dimension : Stmt := top 25
abbrev n_need_dimension : List Str := ["value"]
theorem sc_need_dimension : FnScope n_need_dimension ["value"] (defScope s_need_dimension) := ⟨rfl, rfl, rfl, by decide +kernel, rfl, by decide +kernel, by decide +kernel⟩
def t_need_dimension (K : PySem.W.Frag) (E : XK) : TS := (tIfS (tNot (mTest (tCall (sp_is_within K) [] E0 (tCons (mVar 0) (tCons (tC (.int 1)) (tCons (tC (.int 3)) tNil)))))) (tRaise K "BadDimension" ["value"] (tCons (mVar 0) tNil) (fun cls d _ H => E cls d H)) tNext)
abbrev s_law_far : Stmt := top 39
abbrev n_law_far : List Str := ["pen"]
theorem sc_law_far : FnScope n_law_far ["pen"] (defScope s_law_far) := ⟨rfl, rfl, rfl, by decide +kernel, rfl, by decide +kernel, by decide +kernel⟩
def t_law_far (K : PySem.W.Frag) : TS := (tSeq (tIfS (mTest (tOp (oEq K) (tCall (sp_law_draw K) [] E0 (tCons (mVar 0) (tCons (tC (.int 6)) tNil))) (tC (.int 0)))) (tRet (tCall (sp_law_pick K) [] E0 (tCons (mVar 0) (tCons (tLst (tCons (tC (.int 999999999999)) (tCons (tUn oNeg (tC (.int 999999999999))) tNil))) tNil)))) tNext)
    (tRet (tOp (oMulU K) (tOp oSub (tC (.int 1)) (tOp (oMulU K) (tC (.int 2)) (tCall (sp_law_draw K) [] E0 (tCons (mVar 0) (tCons (tC (.int 2)) tNil))))) (tOp (oAddT K) (tOp (oMulU K) (tCall (sp_law_draw K) [] E0 (tCons (mVar 0) (tCons (tOp oPow (tC (.int 10)) (tC (.int 6))) tNil))) (tOp oPow (tC (.int 10)) (tC (.int 6)))) (tCall (sp_law_draw K) [] E0 (tCons (mVar 0) (tCons (tOp oPow (tC (.int 10)) (tC (.int 6))) tNil)))))))
abbrev s_law_is_spot : Stmt := top 43
abbrev n_law_is_spot : List Str := ["dimension", "kind", "value", "many", "point"]
theorem sc_law_is_spot : FnScope n_law_is_spot ["dimension", "kind", "value"] (defScope s_law_is_spot) := ⟨rfl, rfl, rfl, by decide +kernel, rfl, by decide +kernel, by decide +kernel⟩
def t_law_is_spot (K : PySem.W.Frag) : TS := (tSeq (tAsg (tIf (mTest (tOp (oEq K) (mVar 1) (tC (.str "rod")))) (tC (.int 2)) (tIf (mTest (tOp (oEq K) (mVar 1) (tC (.str "hinge")))) (tOp oSub (mVar 0) (tC (.int 1))) (tC (.int 0)))) (gName 3))
    (tRet (mAnd (tCB (rIs1 K .tup) (tCons (mVar 2) (tCons (tC (.ty "tuple")) tNil))) (mAnd (tOp (oEq K) (tCB (rLenU K) (tCons (mVar 2) tNil)) (mVar 3)) (tCB (rAllU K) (tCons (tLc (iU K (mVar 2)) (gName 4) tYes (tCall (sp_law_is_point K) [] E0 (tCons (mVar 0) (tCons (mVar 4) tNil))) [4]) tNil))))))
abbrev s_has_point_form : Stmt := top 17
abbrev n_has_point_form : List Str := ["dimension", "value", "part"]
theorem sc_has_point_form : FnScope n_has_point_form ["dimension", "value"] (defScope s_has_point_form) := ⟨rfl, rfl, rfl, by decide +kernel, rfl, by decide +kernel, by decide +kernel⟩
def t_has_point_form (K : PySem.W.Frag) : TS := (tSeq (tIfS (tOr (tNot (mTest (tCB (rIs1 K .tup) (tCons (mVar 1) (tCons (tC (.ty "tuple")) tNil))))) (mTest (tOp (oNe K) (tCB (rLenU K) (tCons (mVar 1) tNil)) (mVar 0)))) (tRet (tC (.bl false))) tNext)
    (tRet (tCB (rAllU K) (tCons (tLc (iU K (mVar 1)) (gName 2) tYes (tCall (sp_coordinate K) [] E0 (tCons (mVar 2) tNil)) [2]) tNil))))
abbrev s_law_number : Stmt := top 40
abbrev n_law_number : List Str := ["pen", "size", "edge", "way", "sign"]
theorem sc_law_number : FnScope n_law_number ["pen"] (defScope s_law_number) := ⟨rfl, rfl, rfl, by decide +kernel, rfl, by decide +kernel, by decide +kernel⟩
def t_law_number (K : PySem.W.Frag) : TS := (tSeq (tAsg (tCall (sp_law_pick K) [] E0 (tCons (mVar 0) (tCons (tLst (tCons (tC (.int 3)) (tCons (tC (.int 40)) (tCons (tOp oPow (tC (.int 10)) (tC (.int 6))) tNil)))) tNil))) (gName 1))
    (tSeq (tAsg (tCall (sp_law_pick K) [] E0 (tCons (mVar 0) (tCons (tLst (tCons (tC (.int 999999999999)) (tCons (tC (.int 999999999998)) (tCons (tOp oPow (tC (.int 10)) (tC (.int 12))) (tCons (tCall (sp_law_far K) [] E0 (tCons (mVar 0) tNil)) (tCons (tOp oPow (tC (.int 10)) (tC (.int 40))) tNil)))))) tNil))) (gName 2))
    (tSeq (tPar 3 4 (tCons (tCall (sp_law_draw K) [] E0 (tCons (mVar 0) (tCons (tC (.int 5)) tNil))) (tCons (tOp oSub (tC (.int 1)) (tOp (oMulU K) (tC (.int 2)) (tCall (sp_law_draw K) [] E0 (tCons (mVar 0) (tCons (tC (.int 2)) tNil))))) tNil)))
    (tRet (tIf (mTest (tOp (oEq K) (mVar 3) (tC (.int 0)))) (tOp (oMulU K) (mVar 4) (mVar 2)) (tOp oSub (tCall (sp_law_draw K) [] E0 (tCons (mVar 0) (tCons (tOp (oAddT K) (tOp (oMulU K) (tC (.int 2)) (mVar 1)) (tC (.int 1))) tNil))) (mVar 1)))))))
abbrev s_has_spot_form : Stmt := top 19
abbrev n_has_spot_form : List Str := ["dimension", "kind", "value", "point"]
theorem sc_has_spot_form : FnScope n_has_spot_form ["dimension", "kind", "value"] (defScope s_has_spot_form) := ⟨rfl, rfl, rfl, by decide +kernel, rfl, by decide +kernel, by decide +kernel⟩
def t_has_spot_form (K : PySem.W.Frag) : TS := (tSeq (tIfS (tOr (tNot (mTest (tCB (rIs1 K .tup) (tCons (mVar 2) (tCons (tC (.ty "tuple")) tNil))))) (mTest (tOp (oNe K) (tCB (rLenU K) (tCons (mVar 2) tNil)) (tCall (sp_points_in K) [] E0 (tCons (mVar 0) (tCons (mVar 1) tNil)))))) (tRet (tC (.bl false))) tNext)
    (tRet (tCB (rAllU K) (tCons (tLc (iU K (mVar 2)) (gName 3) tYes (tCall (sp_has_point_form K) [] E0 (tCons (mVar 0) (tCons (mVar 3) tNil))) [3]) tNil))))
abbrev s_has_any_point_form : Stmt := top 23
abbrev n_has_any_point_form : List Str := ["value"]
theorem sc_has_any_point_form : FnScope n_has_any_point_form ["value"] (defScope s_has_any_point_form) := ⟨rfl, rfl, rfl, by decide +kernel, rfl, by decide +kernel, by decide +kernel⟩
def t_has_any_point_form (K : PySem.W.Frag) : TS := (tRet (mAnd (tCB (rIs1 K .tup) (tCons (mVar 0) (tCons (tC (.ty "tuple")) tNil))) (mAnd (mChain oLe oLe (tC (.int 1)) (tCB (rLenU K) (tCons (mVar 0) tNil)) (tC (.int 3))) (tCall (sp_has_point_form K) [] E0 (tCons (tCB (rLenU K) (tCons (mVar 0) tNil)) (tCons (mVar 0) tNil))))))
abbrev s_is_point : Stmt := top 26
abbrev n_is_point : List Str := ["dimension", "value"]
theorem sc_is_point : FnScope n_is_point ["dimension", "value"] (defScope s_is_point) := ⟨rfl, rfl, rfl, by decide +kernel, rfl, by decide +kernel, by decide +kernel⟩
def t_is_point (K : PySem.W.Frag) (E : XK) : TS := (tSeq (tDrop (tCall (sp_need_dimension K) [] E (tCons (mVar 0) tNil)))
    (tRet (tCall (sp_has_point_form K) [] E0 (tCons (mVar 0) (tCons (mVar 1) tNil)))))
abbrev s_speed : Stmt := top 30
abbrev n_speed : List Str := ["motion", "point", "row"]
theorem sc_speed : FnScope n_speed ["motion", "point"] (defScope s_speed) := ⟨rfl, rfl, rfl, by decide +kernel, rfl, by decide +kernel, by decide +kernel⟩
def t_speed (K : PySem.W.Frag) (E : XK) : TS := (tSeq (tIfS (tOr (tNot (mTest (tCB (rIs1 K .tup) (tCons (mVar 0) (tCons (tC (.ty "tuple")) tNil))))) (tOr (mTest (tOp (oInI K true) (tCB (rLenU K) (tCons (mVar 0) tNil)) (tC (.ref (He.ga K "WIDTHS"))))) (tNot (mTest (tCall (sp_is_small_motion K) [] E0 (tCons (tCB (rLenU K) (tCons (mVar 0) tNil)) (tCons (mVar 0) tNil))))))) (tRaise K "BadNumber" ["part"] (tCons (tC (.str "motion")) tNil) (fun cls d _ H => E cls d H)) tNext)
    (tSeq (tIfS (tNot (mTest (tCall (sp_has_point_form K) [] E0 (tCons (tOp (oIxI K) (tC (.ref (He.ga K "WIDTHS"))) (tCB (rLenU K) (tCons (mVar 0) tNil))) (tCons (mVar 1) tNil))))) (tRaise K "BadNumber" ["part"] (tCons (tC (.str "point")) tNil) (fun cls d _ H => E cls d H)) tNext)
    (tRet (tCB (rTupU K) (tCons (tLc (iU K (tCall (sp_speed_rows K) [] E0 (tCons (mVar 1) tNil))) (gName 2) tYes (tCall (sp_times K) [] E0 (tCons (mVar 2) (tCons (mVar 0) tNil))) [2]) tNil)))))
abbrev s_law_odd : Stmt := top 45
abbrev n_law_odd : List Str := ["pen", "dimension", "point", "spot", "some", "at"]
theorem sc_law_odd : FnScope n_law_odd ["pen", "dimension"] (defScope s_law_odd) := ⟨rfl, rfl, rfl, by decide +kernel, rfl, by decide +kernel, by decide +kernel⟩
def t_law_odd (K : PySem.W.Frag) : TS := (tSeq (tAsg (tCB (rTupU K) (tCons (tLc (iRng1 (tCons (mVar 1) tNil)) (gName 5) tYes (tCall (sp_law_number K) [] E0 (tCons (mVar 0) tNil)) [5]) tNil)) (gName 2))
    (tSeq (tAsg (tCall (sp_law_draw K) [] E0 (tCons (mVar 0) (tCons (mVar 1) tNil))) (gName 3))
    (tSeq (tAsg (tLst (tCons (mVar 2) (tCons (mVar 2) (tCons (mVar 2) (tCons (tCB (rListU K) (tCons (mVar 2) tNil)) (tCons (tOp (oAddT K) (mVar 2) (tTup (tCons (tC (.int 0)) tNil))) (tCons (tSl (oSl K) (mVar 2) (mPart (tC (.int 1))) tNoPart) (tCons (tOp (oAddT K) (tOp (oAddT K) (tSl (oSl K) (mVar 2) tNoPart (mPart (mVar 3))) (tTup (tCons (tC (.bl true)) tNil))) (tSl (oSl K) (mVar 2) (mPart (tOp (oAddT K) (mVar 3) (tC (.int 1)))) tNoPart)) tNil)))))))) (gName 4))
    (tSeq (tAsg (tOp (oAddT K) (mVar 4) (tLst (tCons (tOp (oAddT K) (tOp (oAddT K) (tSl (oSl K) (mVar 2) tNoPart (mPart (mVar 3))) (tTup (tCons (tCB rStrU (tCons (tOp (oIx K) (mVar 2) (mVar 3)) tNil)) tNil))) (tSl (oSl K) (mVar 2) (mPart (tOp (oAddT K) (mVar 3) (tC (.int 1)))) tNoPart)) (tCons (tOp (oAddT K) (tOp (oAddT K) (tSl (oSl K) (mVar 2) tNoPart (mPart (mVar 3))) (tTup (tCons (tC .non) tNil))) (tSl (oSl K) (mVar 2) (mPart (tOp (oAddT K) (mVar 3) (tC (.int 1)))) tNoPart)) (tCons (tC .non) (tCons (tOp (oIx K) (mVar 2) (tC (.int 0))) (tCons (tTup (tCons (mVar 2) tNil)) (tCons (tC (.str "0")) tNil)))))))) (gName 4))
    (tRet (tCall (sp_law_pick K) [] E0 (tCons (mVar 0) (tCons (mVar 4) tNil))))))))
abbrev s_is_spot : Stmt := top 27
abbrev n_is_spot : List Str := ["dimension", "kind", "value"]
theorem sc_is_spot : FnScope n_is_spot ["dimension", "kind", "value"] (defScope s_is_spot) := ⟨rfl, rfl, rfl, by decide +kernel, rfl, by decide +kernel, by decide +kernel⟩
def t_is_spot (K : PySem.W.Frag) (E : XK) : TS := (tSeq (tDrop (tCall (sp_need_dimension K) [] E (tCons (mVar 0) tNil)))
    (tSeq (tIfS (tOr (tNot (mTest (tCB (rIs1 K .str) (tCons (mVar 1) (tCons (tC (.ty "str")) tNil))))) (mTest (tOp (oInU K true) (mVar 1) (tCall (sp_kinds_in K) [] E0 (tCons (mVar 0) tNil))))) (tRaise K "BadName" ["value"] (tCons (mVar 1) tNil) (fun cls d _ H => E cls d H)) tNext)
    (tRet (tCall (sp_has_spot_form K) [] E0 (tCons (mVar 0) (tCons (mVar 1) (tCons (mVar 2) tNil)))))))
abbrev s_line : Stmt := top 28
abbrev n_line : List Str := ["one", "other"]
theorem sc_line : FnScope n_line ["one", "other"] (defScope s_line) := ⟨rfl, rfl, rfl, by decide +kernel, rfl, by decide +kernel, by decide +kernel⟩
def t_line (K : PySem.W.Frag) (E : XK) : TS := (tSeq (tIfS (tNot (mTest (tCall (sp_has_any_point_form K) [] E0 (tCons (mVar 0) tNil)))) (tRaise K "BadNumber" ["part"] (tCons (tC (.str "one")) tNil) (fun cls d _ H => E cls d H)) tNext)
    (tSeq (tIfS (tNot (mTest (tCall (sp_has_point_form K) [] E0 (tCons (tCB (rLenU K) (tCons (mVar 0) tNil)) (tCons (mVar 1) tNil))))) (tRaise K "BadNumber" ["part"] (tCons (tC (.str "other")) tNil) (fun cls d _ H => E cls d H)) tNext)
    (tRet (tCall (sp_line_between K) [] E0 (tCons (mVar 0) (tCons (mVar 1) tNil))))))
abbrev s_law_looks_right : Stmt := top 46
abbrev n_law_looks_right : List Str := ["pen", "dimension", "number", "value", "kind", "good", "exact", "some", "spot", "turn", "at"]
theorem sc_law_looks_right : FnScope n_law_looks_right ["pen", "dimension"] (defScope s_law_looks_right) := ⟨rfl, rfl, rfl, by decide +kernel, rfl, by decide +kernel, by decide +kernel⟩
def t_law_looks_right (K : PySem.W.Frag) : TS := (tSeq (tPar 2 3 (tCons (tCall (sp_law_pick K) [] E0 (tCons (mVar 0) (tCons (tLst (tCons (tCall (sp_law_number K) [] E0 (tCons (mVar 0) tNil)) (tCons (tCall (sp_law_number K) [] E0 (tCons (mVar 0) tNil)) (tCons (tC (.bl true)) (tCons (tC .non) (tCons (tC (.str "1")) (tCons (tTup (tCons (tC (.int 1)) tNil)) tNil))))))) tNil))) (tCons (tCall (sp_law_odd K) [] E0 (tCons (mVar 0) (tCons (mVar 1) tNil))) tNil)))
    (tSeq (tIfS (tOr (tNot (mTest (tCall (sp_law_says K) [] E0 (tCons (tCall (sp_coordinate K) [] E0 (tCons (mVar 2) tNil)) (tCons (tCall (sp_law_is_coordinate K) [] E0 (tCons (mVar 2) tNil)) tNil))))) (tNot (mTest (tCall (sp_law_says K) [] E0 (tCons (tCall (sp_coordinate K) [] E0 (tCons (mVar 3) tNil)) (tCons (tCall (sp_law_is_coordinate K) [] E0 (tCons (mVar 3) tNil)) tNil)))))) (tRet (tC (.bl false))) tNext)
    (tSeq (tIfS (tNot (mTest (tCall (sp_law_says K) [] E0 (tCons (tCall (sp_is_point K) [] E0 (tCons (mVar 1) (tCons (mVar 3) tNil))) (tCons (tCall (sp_law_is_point K) [] E0 (tCons (mVar 1) (tCons (mVar 3) tNil))) tNil))))) (tRet (tC (.bl false))) tNext)
    (tSeq (tFor (iU K (tSl (oSl K) (tLst (tCons (tC (.str "rod")) (tCons (tC (.str "hinge")) (tCons (tC (.str "weld")) tNil)))) tNoPart (mPart (tOp (oAddT K) (mVar 1) (tC (.int 1)))))) (gName 4) (tIfS (tOr (mTest (tOp oGt (mVar 1) (tC (.int 1)))) (mTest (tOp (oEq K) (mVar 4) (tC (.str "rod"))))) (tSeq (tAsg (tCB (rTupU K) (tCons (tLc (iRng1 (tCons (tCall (sp_law_draw K) [] E0 (tCons (mVar 0) (tCons (tC (.int 4)) tNil))) tNil)) (gName 9) tYes (tCB (rTupU K) (tCons (tLc (iRng1 (tCons (mVar 1) tNil)) (gName 10) tYes (tOp oSub (tCall (sp_law_draw K) [] E0 (tCons (mVar 0) (tCons (tC (.int 9)) tNil))) (tC (.int 4))) [10]) tNil)) [9]) tNil)) (gName 5))
    (tSeq (tAsg (tOp (oMulU K) (tSl (oSl K) (mVar 5) tNoPart (mPart (tC (.int 1)))) (tIf (mTest (tOp (oEq K) (mVar 4) (tC (.str "rod")))) (tC (.int 2)) (tIf (mTest (tOp (oEq K) (mVar 4) (tC (.str "hinge")))) (tOp oSub (mVar 1) (tC (.int 1))) (tC (.int 0))))) (gName 6))
    (tSeq (tAsg (tLst (tCons (mVar 5) (tCons (mVar 6) (tCons (tOp (oAddT K) (tSl (oSl K) (mVar 6) (mPart (tC (.int 1))) tNoPart) (tTup (tCons (mVar 3) tNil))) (tCons (tOp (oAddT K) (tTup (tCons (mVar 3) tNil)) (tSl (oSl K) (mVar 6) (mPart (tC (.int 1))) tNoPart)) (tCons (tCB (rListU K) (tCons (mVar 6) tNil)) (tCons (tOp (oAddT K) (mVar 6) (tSl (oSl K) (mVar 5) tNoPart (mPart (tC (.int 1))))) (tCons (tC .non) (tCons tDNewK (tCons (mVar 4) tNil)))))))))) (gName 7))
    (tFor (iU K (mVar 7)) (gName 8) (tIfS (tNot (mTest (tCall (sp_law_says K) [] E0 (tCons (tCall (sp_is_spot K) [] E0 (tCons (mVar 1) (tCons (mVar 4) (tCons (mVar 8) tNil)))) (tCons (tCall (sp_law_is_spot K) [] E0 (tCons (mVar 1) (tCons (mVar 4) (tCons (mVar 8) tNil)))) tNil))))) (tRet (tC (.bl false))) tNext))))) tNext))
    (tRet (mAnd (tOp (oIs false) (tCallP [2, 1, 0] (sp_is_spot K) E0 (tCons (tTup tNil) (tCons (tC (.str "weld")) (tCons (mVar 1) tNil)))) (tC (.bl true))) (tOp (oIs false) (tCallP [1, 0] (sp_is_point K) E0 (tCons (tOp (oMulU K) (tTup (tCons (tC (.int 0)) tNil)) (mVar 1)) (tCons (mVar 1) tNil))) (tC (.bl true)))))))))
abbrev s_law_numbers_right : Stmt := top 47
abbrev n_law_numbers_right : List Str := ["pen", "dimension", "size", "one", "other", "width", "ahead", "due", "motion", "told", "mine", "its", "at", "unit", "number"]
theorem sc_law_numbers_right : FnScope n_law_numbers_right ["pen", "dimension"] (defScope s_law_numbers_right) := ⟨rfl, rfl, rfl, by decide +kernel, rfl, by decide +kernel, by decide +kernel⟩
def t_law_numbers_right (K : PySem.W.Frag) : TS := (tSeq (tAsg (tCall (sp_law_pick K) [] E0 (tCons (mVar 0) (tCons (tLst (tCons (tC (.int 3)) (tCons (tOp oPow (tC (.int 10)) (tC (.int 6))) (tCons (tC (.int 0)) tNil)))) tNil))) (gName 2))
    (tSeq (tAsg (tCB (rTupU K) (tCons (tLc (iRng1 (tCons (mVar 1) tNil)) (gName 12) tYes (tIf (mTest (tOp oGt (mVar 2) (tC (.int 0)))) (tOp oSub (tCall (sp_law_draw K) [] E0 (tCons (mVar 0) (tCons (tOp (oAddT K) (tOp (oMulU K) (tC (.int 2)) (mVar 2)) (tC (.int 1))) tNil))) (mVar 2)) (tCall (sp_law_far K) [] E0 (tCons (mVar 0) tNil))) [12]) tNil)) (gName 3))
    (tSeq (tAsg (tCB (rTupU K) (tCons (tLc (iRng1 (tCons (mVar 1) tNil)) (gName 12) tYes (tIf (mTest (tOp oGt (mVar 2) (tC (.int 0)))) (tOp oSub (tCall (sp_law_draw K) [] E0 (tCons (mVar 0) (tCons (tOp (oAddT K) (tOp (oMulU K) (tC (.int 2)) (mVar 2)) (tC (.int 1))) tNil))) (mVar 2)) (tCall (sp_law_far K) [] E0 (tCons (mVar 0) tNil))) [12]) tNil)) (gName 4))
    (tSeq (tAsg (tTup (tCons (tOp oDiv (tOp (oMulU K) (mVar 1) (tOp (oAddT K) (mVar 1) (tC (.int 1)))) (tC (.int 2))) (tCons (tLc (iRng1 (tCons (mVar 1) tNil)) (gName 12) tYes (tOp oSub (tOp (oIx K) (mVar 4) (mVar 12)) (tOp (oIx K) (mVar 3) (mVar 12))) [12]) tNil))) (gTup K 2 (gCons (gName 5) (gCons (gName 6) gNil))))
    (tSeq (tAsg (tLc (iU K (tCall (sp_law_units K) [] E0 (tCons (mVar 5) tNil))) (gName 13) tYes (tCB (rSumU K) (tCons (tLc (iRng1 (tCons (mVar 1) tNil)) (gName 12) tYes (tOp (oMulU K) (tOp (oIx K) (mVar 6) (mVar 12)) (tOp (oIx K) (tCall (sp_law_speed K) [] E0 (tCons (mVar 13) (tCons (mVar 3) tNil))) (mVar 12))) [12]) tNil)) [13]) (gName 7))
    (tSeq (tIfS (tOr (tNot (mTest (tCall (sp_law_same K) [] E0 (tCons (tCall (sp_line K) [] E0 (tCons (mVar 3) (tCons (mVar 4) tNil))) (tCons (mVar 7) tNil))))) (tNot (mTest (tCall (sp_law_same K) [] E0 (tCons (tCallP [1, 0] (sp_line K) E0 (tCons (mVar 3) (tCons (mVar 4) tNil))) (tCons (tLc (iU K (mVar 7)) (gName 14) tYes (tOp oSub (tC (.int 0)) (mVar 14)) [14]) tNil)))))) (tRet (tC (.bl false))) tNext)
    (tSeq (tAsg (tCB (rTupU K) (tCons (tLc (iRng1 (tCons (mVar 5) tNil)) (gName 12) tYes (tCall (sp_law_number K) [] E0 (tCons (mVar 0) tNil)) [12]) tNil)) (gName 8))
    (tSeq (tAsg (tCall (sp_speed K) [] E0 (tCons (mVar 8) (tCons (mVar 3) tNil))) (gName 9))
    (tSeq (tIfS (tOr (tNot (mTest (tCall (sp_law_same K) [] E0 (tCons (mVar 9) (tCons (tCall (sp_law_speed K) [] E0 (tCons (mVar 8) (tCons (mVar 3) tNil))) tNil))))) (mTest (tOp (oNe K) (tCallP [1, 0] (sp_speed K) E0 (tCons (mVar 3) (tCons (mVar 8) tNil))) (mVar 9)))) (tRet (tC (.bl false))) tNext)
    (tSeq (tAsg (tTup (tCons (tCall (sp_speed K) [] E0 (tCons (mVar 8) (tCons (mVar 3) tNil))) (tCons (tCall (sp_speed K) [] E0 (tCons (mVar 8) (tCons (mVar 4) tNil))) tNil))) (gTup K 2 (gCons (gName 10) (gCons (gName 11) gNil))))
    (tRet (tOp (oEq K) (tCB (rSumU K) (tCons (tLc (iRng1 (tCons (mVar 1) tNil)) (gName 12) tYes (tOp (oMulU K) (tOp (oIx K) (mVar 6) (mVar 12)) (tOp oSub (tOp (oIx K) (mVar 11) (mVar 12)) (tOp (oIx K) (mVar 10) (mVar 12)))) [12]) tNil)) (tC (.int 0))))))))))))))
abbrev s_law_refused : Stmt := top 48
abbrev n_law_refused : List Str := ["pen", "dimension", "width", "point", "bad", "bent", "motion", "wrong", "heard", "far", "kind", "at"]
theorem sc_law_refused : FnScope n_law_refused ["pen", "dimension"] (defScope s_law_refused) := ⟨rfl, rfl, rfl, by decide +kernel, rfl, by decide +kernel, by decide +kernel⟩
def t_law_refused (K : PySem.W.Frag) : TS := (tSeq (tAsg (tTup (tCons (tOp oDiv (tOp (oMulU K) (mVar 1) (tOp (oAddT K) (mVar 1) (tC (.int 1)))) (tC (.int 2))) (tCons (tCB (rTupU K) (tCons (tLc (iRng1 (tCons (mVar 1) tNil)) (gName 11) tYes (tOp oSub (tCall (sp_law_draw K) [] E0 (tCons (mVar 0) (tCons (tC (.int 9)) tNil))) (tC (.int 4))) [11]) tNil)) tNil))) (gTup K 2 (gCons (gName 2) (gCons (gName 3) gNil))))
    (tSeq (tAsg (tCall (sp_law_pick K) [] E0 (tCons (mVar 0) (tCons (tLst (tCons (tC .non) (tCons (tC (.int 7)) (tCons (tCB (rListU K) (tCons (mVar 3) tNil)) (tCons (tOp (oMulU K) (mVar 3) (tC (.int 4))) (tCons (tTup tNil) (tCons (tOp (oAddT K) (tTup (tCons (tC (.bl true)) tNil)) (tSl (oSl K) (mVar 3) (mPart (tC (.int 1))) tNoPart)) (tCons (tOp (oAddT K) (tTup (tCons (tC (.str "0")) tNil)) (tSl (oSl K) (mVar 3) (mPart (tC (.int 1))) tNoPart)) (tCons (tOp (oAddT K) (tSl (oSl K) (mVar 3) tNoPart (mPart (tUn oNeg (tC (.int 1))))) (tTup (tCons (tOp oPow (tC (.int 10)) (tC (.int 12))) tNil))) (tCons tDNewK tNil)))))))))) tNil))) (gName 4))
    (tSeq (tAsg (tCall (sp_law_pick K) [] E0 (tCons (mVar 0) (tCons (tLst (tCons (tOp (oAddT K) (mVar 3) (tTup (tCons (tC (.int 1)) tNil))) (tCons (tSl (oSl K) (mVar 3) (mPart (tC (.int 1))) tNoPart) (tCons (tCB (rListU K) (tCons (mVar 3) tNil)) (tCons (tC .non) (tCons (tOp (oAddT K) (tSl (oSl K) (mVar 3) tNoPart (mPart (tUn oNeg (tC (.int 1))))) (tTup (tCons (tOp oSub (tC (.int 0)) (tOp oPow (tC (.int 10)) (tC (.int 12)))) tNil))) (tCons (tOp (oAddT K) (tSl (oSl K) (mVar 3) tNoPart (mPart (tUn oNeg (tC (.int 1))))) (tTup (tCons (tC (.bl false)) tNil))) tNil))))))) tNil))) (gName 5))
    (tSeq (tAsg (tCB (rTupU K) (tCons (tLc (iRng1 (tCons (mVar 2) tNil)) (gName 11) tYes (tCall (sp_law_number K) [] E0 (tCons (mVar 0) tNil)) [11]) tNil)) (gName 6))
    (tSeq (tAsg (tCall (sp_law_pick K) [] E0 (tCons (mVar 0) (tCons (tLst (tCons (tC .non) (tCons (tC (.int 3)) (tCons (tCB (rListU K) (tCons (mVar 6) tNil)) (tCons (tOp (oAddT K) (mVar 6) (tTup (tCons (tC (.int 0)) tNil))) (tCons (tOp (oAddT K) (tSl (oSl K) (mVar 6) tNoPart (mPart (tUn oNeg (tC (.int 1))))) (tTup (tCons (tC (.bl true)) tNil))) (tCons (tOp (oMulU K) (tTup (tCons (tC (.int 0)) tNil)) (tC (.int 4))) (tCons (tOp (oMulU K) (tTup (tCons (tC (.int 0)) tNil)) (tC (.int 2))) (tCons (tTup tNil) (tCons (tOp (oAddT K) (tSl (oSl K) (mVar 6) tNoPart (mPart (tUn oNeg (tC (.int 1))))) (tTup (tCons (tC (.str "1")) tNil))) tNil)))))))))) tNil))) (gName 7))
    (tSeq (tAsg (tLst (tCons (mLam (tabs K) (TT_law_heard K) (fun E => (tCall (sp_line K) [] E (tCons (mVar 4) (tCons (mVar 5) tNil))))) (tCons (mLam (tabs K) (TT_law_heard K) (fun E => (tCall (sp_line K) [] E (tCons (mVar 4) (tCons (mVar 3) tNil))))) (tCons (mLam (tabs K) (TT_law_heard K) (fun E => (tCall (sp_line K) [] E (tCons (mVar 3) (tCons (mVar 5) tNil))))) tNil)))) (gName 8))
    (tSeq (tIfS (mTest (tOp (oNe K) (mVar 8) (tOp (oAddT K) (tOp (oMulU K) (tLst (tCons (tTup (tCons (tC (.str "BadNumber")) (tCons (tC (.str "one")) tNil))) tNil)) (tC (.int 2))) (tLst (tCons (tTup (tCons (tC (.str "BadNumber")) (tCons (tC (.str "other")) tNil))) tNil))))) (tRet (tC (.bl false))) tNext)
    (tSeq (tAsg (tLst (tCons (mLam (tabs K) (TT_law_heard K) (fun E => (tCall (sp_speed K) [] E (tCons (mVar 7) (tCons (mVar 5) tNil))))) (tCons (mLam (tabs K) (TT_law_heard K) (fun E => (tCall (sp_speed K) [] E (tCons (mVar 7) (tCons (mVar 3) tNil))))) (tCons (mLam (tabs K) (TT_law_heard K) (fun E => (tCall (sp_speed K) [] E (tCons (mVar 6) (tCons (mVar 5) tNil))))) tNil)))) (gName 8))
    (tSeq (tIfS (mTest (tOp (oNe K) (mVar 8) (tOp (oAddT K) (tOp (oMulU K) (tLst (tCons (tTup (tCons (tC (.str "BadNumber")) (tCons (tC (.str "motion")) tNil))) tNil)) (tC (.int 2))) (tLst (tCons (tTup (tCons (tC (.str "BadNumber")) (tCons (tC (.str "point")) tNil))) tNil))))) (tRet (tC (.bl false))) tNext)
    (tSeq (tAsg (tTup (tCons (tCall (sp_law_pick K) [] E0 (tCons (mVar 0) (tCons (tLst (tCons (tC (.int 0)) (tCons (tC (.int 4)) (tCons (tUn oNeg (tC (.int 1))) (tCons (tC (.bl true)) (tCons (tC .non) (tCons (tC (.str "2")) (tCons (tTup (tCons (tC (.int 2)) tNil)) (tCons (tOp oPow (tC (.int 10)) (tC (.int 30))) tNil))))))))) tNil))) (tCons (tCall (sp_law_pick K) [] E0 (tCons (mVar 0) (tCons (tLst (tCons (tC (.str "Rod")) (tCons (tC (.str "")) (tCons (tC .non) (tCons (tC (.int 5)) (tCons (tC (.str "rods")) (tCons (tTup (tCons (tC (.str "rod")) tNil)) (tCons (tC (.str "hinge.")) tNil)))))))) tNil))) tNil))) (gTup K 2 (gCons (gName 9) (gCons (gName 10) gNil))))
    (tSeq (tAsg (tLst (tCons (mLam (tabs K) (TT_law_heard K) (fun E => (tCall (sp_is_point K) [] E (tCons (mVar 9) (tCons (mVar 3) tNil))))) (tCons (mLam (tabs K) (TT_law_heard K) (fun E => (tCall (sp_is_spot K) [] E (tCons (mVar 9) (tCons (mVar 10) (tCons (tTup tNil) tNil)))))) (tCons (mLam (tabs K) (TT_law_heard K) (fun E => (tCall (sp_is_spot K) [] E (tCons (mVar 1) (tCons (mVar 10) (tCons (tTup tNil) tNil)))))) tNil)))) (gName 8))
    (tSeq (tIfS (mTest (tOp (oNe K) (mVar 8) (tLst (tCons (tTup (tCons (tC (.str "BadDimension")) (tCons (mVar 9) tNil))) (tCons (tTup (tCons (tC (.str "BadDimension")) (tCons (mVar 9) tNil))) (tCons (tTup (tCons (tC (.str "BadName")) (tCons (mVar 10) tNil))) tNil)))))) (tRet (tC (.bl false))) tNext)
    (tSeq (tIfS (tNot (mTest (tOp (oEq K) (mLam (tabs K) (TT_law_heard K) (fun E => (tCall (sp_is_spot K) [] E (tCons (tC (.int 1)) (tCons (tC (.str "hinge")) (tCons (tTup tNil) tNil)))))) (tTup (tCons (tC (.str "BadName")) (tCons (tC (.str "hinge")) tNil)))))) (tRet (tC (.bl false))) tNext)
    (tRet (tOp (oIs false) (mLam (tabs K) (TT_law_heard K) (fun E => (tCall (sp_is_spot K) [] E (tCons (tC (.int 2)) (tCons (tC (.str "hinge")) (tCons (tTup tNil) tNil)))))) (tC .non))))))))))))))))
abbrev s_law : Stmt := top 49
abbrev n_law : List Str := ["script", "pen", "turn", "dimension", "edges"]
theorem sc_law : FnScope n_law ["script"] (defScope s_law) := ⟨rfl, rfl, rfl, by decide +kernel, rfl, by decide +kernel, by decide +kernel⟩
def t_law (K : PySem.W.Frag) : TS := (tSeq (tAsg (tCall (sp_law_pen K) [] E0 (tCons (mVar 0) tNil)) (gName 1))
    (tSeq (tFor (iRng1 (tCons (tC (.int 4)) tNil)) (gName 2) (tFor (iU K (tTup (tCons (tC (.int 1)) (tCons (tC (.int 2)) (tCons (tC (.int 3)) tNil))))) (gName 3) (tIfS (tOr (tNot (mTest (tCall (sp_law_looks_right K) [] E0 (tCons (mVar 1) (tCons (mVar 3) tNil))))) (tOr (tNot (mTest (tCall (sp_law_numbers_right K) [] E0 (tCons (mVar 1) (tCons (mVar 3) tNil))))) (tNot (mTest (tCall (sp_law_refused K) [] E0 (tCons (mVar 1) (tCons (mVar 3) tNil))))))) (tRet (tC (.bl false))) tNext)))
    (tSeq (tAsg (tLst (tCons (tCall (sp_coordinate K) [] E0 (tCons (tC (.int 999999999999)) tNil)) (tCons (tCall (sp_coordinate K) [] E0 (tCons (tUn oNeg (tC (.int 999999999999))) tNil)) (tCons (tCall (sp_coordinate K) [] E0 (tCons (tOp oPow (tC (.int 10)) (tC (.int 12))) tNil)) (tCons (tCall (sp_coordinate K) [] E0 (tCons (tOp oSub (tC (.int 0)) (tOp oPow (tC (.int 10)) (tC (.int 12)))) tNil)) tNil))))) (gName 4))
    (tRet (tOp (oEq K) (mVar 4) (tLst (tCons (tC (.bl true)) (tCons (tC (.bl true)) (tCons (tC (.bl false)) (tCons (tC (.bl false)) tNil))))))))))
structure Top (K : PySem.W.Frag) (mg : Str → Option Value) : Prop where
  ef : EF K
  tn : tabsB (tabs K) = true
  d_is_integer : ∃ fd, FnP K "is_integer" "is_integer" s_is_integer (He.fAd K ("is_integer", none)) fd
  d_BadDimension : ∃ fd, FnP K "__init__" "BadDimension.__init__" s_BadDimension (He.fAd K ("BadDimension", some "__init__")) fd
  d_BadName : ∃ fd, FnP K "__init__" "BadName.__init__" s_BadName (He.fAd K ("BadName", some "__init__")) fd
  d_BadNumber : ∃ fd, FnP K "__init__" "BadNumber.__init__" s_BadNumber (He.fAd K ("BadNumber", some "__init__")) fd
  d_kinds_in : ∃ fd, FnP K "kinds_in" "kinds_in" s_kinds_in (He.fAd K ("kinds_in", none)) fd
  d_points_in : ∃ fd, FnP K "points_in" "points_in" s_points_in (He.fAd K ("points_in", none)) fd
  d_speed_rows : ∃ fd, FnP K "speed_rows" "speed_rows" s_speed_rows (He.fAd K ("speed_rows", none)) fd
  d_times : ∃ fd, FnP K "times" "times" s_times (He.fAd K ("times", none)) fd
  d_law_pen : ∃ fd, FnP K "_law_pen" "_law_pen" s_law_pen (He.fAd K ("_law_pen", none)) fd
  d_law_draw : ∃ fd, FnP K "_law_draw" "_law_draw" s_law_draw (He.fAd K ("_law_draw", none)) fd
  d_law_speed : ∃ fd, FnP K "_law_speed" "_law_speed" s_law_speed (He.fAd K ("_law_speed", none)) fd
  d_law_units : ∃ fd, FnP K "_law_units" "_law_units" s_law_units (He.fAd K ("_law_units", none)) fd
  d_law_heard : ∃ fd, FnP K "_law_heard" "_law_heard" s_law_heard (He.fAd K ("_law_heard", none)) fd
  d_law_says : ∃ fd, FnP K "_law_says" "_law_says" s_law_says (He.fAd K ("_law_says", none)) fd
  d_law_is_coordinate : ∃ fd, FnP K "_law_is_coordinate" "_law_is_coordinate" s_law_is_coordinate (He.fAd K ("_law_is_coordinate", none)) fd
  d_law_same : ∃ fd, FnP K "_law_same" "_law_same" s_law_same (He.fAd K ("_law_same", none)) fd
  d_is_within : ∃ fd, FnP K "is_within" "is_within" s_is_within (He.fAd K ("is_within", none)) fd
  d_line_between : ∃ fd, FnP K "line_between" "line_between" s_line_between (He.fAd K ("line_between", none)) fd
  d_is_small_motion : ∃ fd, FnP K "is_small_motion" "is_small_motion" s_is_small_motion (He.fAd K ("is_small_motion", none)) fd
  d_law_pick : ∃ fd, FnP K "_law_pick" "_law_pick" s_law_pick (He.fAd K ("_law_pick", none)) fd
  d_law_is_point : ∃ fd, FnP K "_law_is_point" "_law_is_point" s_law_is_point (He.fAd K ("_law_is_point", none)) fd
  d_coordinate : ∃ fd, FnP K "coordinate" "coordinate" s_coordinate (He.fAd K ("coordinate", none)) fd
  d_need_dimension : ∃ fd, FnP K "need_dimension" "need_dimension" s_need_dimension (He.fAd K ("need_dimension", none)) fd
  d_law_far : ∃ fd, FnP K "_law_far" "_law_far" s_law_far (He.fAd K ("_law_far", none)) fd
  d_law_is_spot : ∃ fd, FnP K "_law_is_spot" "_law_is_spot" s_law_is_spot (He.fAd K ("_law_is_spot", none)) fd
  d_has_point_form : ∃ fd, FnP K "has_point_form" "has_point_form" s_has_point_form (He.fAd K ("has_point_form", none)) fd
  d_law_number : ∃ fd, FnP K "_law_number" "_law_number" s_law_number (He.fAd K ("_law_number", none)) fd
  d_has_spot_form : ∃ fd, FnP K "has_spot_form" "has_spot_form" s_has_spot_form (He.fAd K ("has_spot_form", none)) fd
  d_has_any_point_form : ∃ fd, FnP K "has_any_point_form" "has_any_point_form" s_has_any_point_form (He.fAd K ("has_any_point_form", none)) fd
  d_is_point : ∃ fd, FnP K "is_point" "is_point" s_is_point (He.fAd K ("is_point", none)) fd
  d_speed : ∃ fd, FnP K "speed" "speed" s_speed (He.fAd K ("speed", none)) fd
  d_law_odd : ∃ fd, FnP K "_law_odd" "_law_odd" s_law_odd (He.fAd K ("_law_odd", none)) fd
  d_is_spot : ∃ fd, FnP K "is_spot" "is_spot" s_is_spot (He.fAd K ("is_spot", none)) fd
  d_line : ∃ fd, FnP K "line" "line" s_line (He.fAd K ("line", none)) fd
  d_law_looks_right : ∃ fd, FnP K "_law_looks_right" "_law_looks_right" s_law_looks_right (He.fAd K ("_law_looks_right", none)) fd
  d_law_numbers_right : ∃ fd, FnP K "_law_numbers_right" "_law_numbers_right" s_law_numbers_right (He.fAd K ("_law_numbers_right", none)) fd
  d_law_refused : ∃ fd, FnP K "_law_refused" "_law_refused" s_law_refused (He.fAd K ("_law_refused", none)) fd
  d_law : ∃ fd, FnP K "law" "law" s_law (He.fAd K ("law", none)) fd
  a_is_integer : mg "is_integer" = some (.ref (He.ga K "is_integer"))
  a_kinds_in : mg "kinds_in" = some (.ref (He.ga K "kinds_in"))
  a_points_in : mg "points_in" = some (.ref (He.ga K "points_in"))
  a_speed_rows : mg "speed_rows" = some (.ref (He.ga K "speed_rows"))
  a_times : mg "times" = some (.ref (He.ga K "times"))
  a_law_pen : mg "_law_pen" = some (.ref (He.ga K "_law_pen"))
  a_law_draw : mg "_law_draw" = some (.ref (He.ga K "_law_draw"))
  a_law_speed : mg "_law_speed" = some (.ref (He.ga K "_law_speed"))
  a_law_units : mg "_law_units" = some (.ref (He.ga K "_law_units"))
  a_law_heard : mg "_law_heard" = some (.ref (He.ga K "_law_heard"))
  a_law_says : mg "_law_says" = some (.ref (He.ga K "_law_says"))
  a_law_is_coordinate : mg "_law_is_coordinate" = some (.ref (He.ga K "_law_is_coordinate"))
  a_law_same : mg "_law_same" = some (.ref (He.ga K "_law_same"))
  a_is_within : mg "is_within" = some (.ref (He.ga K "is_within"))
  a_line_between : mg "line_between" = some (.ref (He.ga K "line_between"))
  a_is_small_motion : mg "is_small_motion" = some (.ref (He.ga K "is_small_motion"))
  a_law_pick : mg "_law_pick" = some (.ref (He.ga K "_law_pick"))
  a_law_is_point : mg "_law_is_point" = some (.ref (He.ga K "_law_is_point"))
  a_coordinate : mg "coordinate" = some (.ref (He.ga K "coordinate"))
  a_need_dimension : mg "need_dimension" = some (.ref (He.ga K "need_dimension"))
  a_law_far : mg "_law_far" = some (.ref (He.ga K "_law_far"))
  a_law_is_spot : mg "_law_is_spot" = some (.ref (He.ga K "_law_is_spot"))
  a_has_point_form : mg "has_point_form" = some (.ref (He.ga K "has_point_form"))
  a_law_number : mg "_law_number" = some (.ref (He.ga K "_law_number"))
  a_has_spot_form : mg "has_spot_form" = some (.ref (He.ga K "has_spot_form"))
  a_has_any_point_form : mg "has_any_point_form" = some (.ref (He.ga K "has_any_point_form"))
  a_is_point : mg "is_point" = some (.ref (He.ga K "is_point"))
  a_speed : mg "speed" = some (.ref (He.ga K "speed"))
  a_law_odd : mg "_law_odd" = some (.ref (He.ga K "_law_odd"))
  a_is_spot : mg "is_spot" = some (.ref (He.ga K "is_spot"))
  a_line : mg "line" = some (.ref (He.ga K "line"))
  a_law_looks_right : mg "_law_looks_right" = some (.ref (He.ga K "_law_looks_right"))
  a_law_numbers_right : mg "_law_numbers_right" = some (.ref (He.ga K "_law_numbers_right"))
  a_law_refused : mg "_law_refused" = some (.ref (He.ga K "_law_refused"))
  a_law : mg "law" = some (.ref (He.ga K "law"))
  a_BadDimension : mg "BadDimension" = some (.ref (He.ga K "BadDimension"))
  a_BadName : mg "BadName" = some (.ref (He.ga K "BadName"))
  a_BadNumber : mg "BadNumber" = some (.ref (He.ga K "BadNumber"))
  a_GiveError : mg "GiveError" = some (.ref (He.ga K "GiveError"))
  a_NoTie : mg "NoTie" = some (.ref (He.ga K "NoTie"))
  a_TooMany : mg "TooMany" = some (.ref (He.ga K "TooMany"))
  b_abs : mg "abs" = none
  b_all : mg "all" = none
  b_bool : mg "bool" = none
  b_enumerate : mg "enumerate" = none
  b_int : mg "int" = none
  b_isinstance : mg "isinstance" = none
  b_len : mg "len" = none
  b_list : mg "list" = none
  b_range : mg "range" = none
  b_str : mg "str" = none
  b_sum : mg "sum" = none
  b_tuple : mg "tuple" = none
  b_zip : mg "zip" = none
  c_KINDS : mg "KINDS" = some (.ref (He.ga K "KINDS"))
  c_MOST_COORDINATE : ∃ t, mg "MOST_COORDINATE" = some (.int 999999999999 t)
  c_MOST_DIMENSION : ∃ t, mg "MOST_DIMENSION" = some (.int 3 t)
  c_WIDTHS : mg "WIDTHS" = some (.ref (He.ga K "WIDTHS"))
def facts : List He.Fa := [.glo "is_integer", .glo "kinds_in", .glo "points_in", .glo "speed_rows", .glo "times", .glo "_law_pen", .glo "_law_draw", .glo "_law_speed", .glo "_law_units", .glo "_law_heard", .glo "_law_says", .glo "_law_is_coordinate", .glo "_law_same", .glo "is_within", .glo "line_between", .glo "is_small_motion", .glo "_law_pick", .glo "_law_is_point", .glo "coordinate", .glo "need_dimension", .glo "_law_far", .glo "_law_is_spot", .glo "has_point_form", .glo "_law_number", .glo "has_spot_form", .glo "has_any_point_form", .glo "is_point", .glo "speed", .glo "_law_odd", .glo "is_spot", .glo "line", .glo "_law_looks_right", .glo "_law_numbers_right", .glo "_law_refused", .glo "law", .glo "BadDimension", .glo "BadName", .glo "BadNumber", .glo "GiveError", .glo "NoTie", .glo "TooMany", .free "abs", .free "all", .free "bool", .free "enumerate", .free "int", .free "isinstance", .free "len", .free "list", .free "range", .free "str", .free "sum", .free "tuple", .free "zip", .glo "KINDS", .int "MOST_COORDINATE" 999999999999, .int "MOST_DIMENSION" 3, .glo "WIDTHS"]
def fns : List He.DefD := [⟨("is_integer", none), "is_integer", "is_integer", defArgs s_is_integer, defBody s_is_integer, defScope s_is_integer, [], []⟩,
  ⟨("BadDimension", some "__init__"), "__init__", "BadDimension.__init__", defArgs s_BadDimension, defBody s_BadDimension, defScope s_BadDimension, [], []⟩,
  ⟨("BadName", some "__init__"), "__init__", "BadName.__init__", defArgs s_BadName, defBody s_BadName, defScope s_BadName, [], []⟩,
  ⟨("BadNumber", some "__init__"), "__init__", "BadNumber.__init__", defArgs s_BadNumber, defBody s_BadNumber, defScope s_BadNumber, [], []⟩,
  ⟨("kinds_in", none), "kinds_in", "kinds_in", defArgs s_kinds_in, defBody s_kinds_in, defScope s_kinds_in, [], []⟩,
  ⟨("points_in", none), "points_in", "points_in", defArgs s_points_in, defBody s_points_in, defScope s_points_in, [], []⟩,
  ⟨("speed_rows", none), "speed_rows", "speed_rows", defArgs s_speed_rows, defBody s_speed_rows, defScope s_speed_rows, [], []⟩,
  ⟨("times", none), "times", "times", defArgs s_times, defBody s_times, defScope s_times, [], []⟩,
  ⟨("_law_pen", none), "_law_pen", "_law_pen", defArgs s_law_pen, defBody s_law_pen, defScope s_law_pen, [], []⟩,
  ⟨("_law_draw", none), "_law_draw", "_law_draw", defArgs s_law_draw, defBody s_law_draw, defScope s_law_draw, [], []⟩,
  ⟨("_law_speed", none), "_law_speed", "_law_speed", defArgs s_law_speed, defBody s_law_speed, defScope s_law_speed, [], []⟩,
  ⟨("_law_units", none), "_law_units", "_law_units", defArgs s_law_units, defBody s_law_units, defScope s_law_units, [], []⟩,
  ⟨("_law_heard", none), "_law_heard", "_law_heard", defArgs s_law_heard, defBody s_law_heard, defScope s_law_heard, [], []⟩,
  ⟨("_law_says", none), "_law_says", "_law_says", defArgs s_law_says, defBody s_law_says, defScope s_law_says, [], []⟩,
  ⟨("_law_is_coordinate", none), "_law_is_coordinate", "_law_is_coordinate", defArgs s_law_is_coordinate, defBody s_law_is_coordinate, defScope s_law_is_coordinate, [], []⟩,
  ⟨("_law_same", none), "_law_same", "_law_same", defArgs s_law_same, defBody s_law_same, defScope s_law_same, [], []⟩,
  ⟨("is_within", none), "is_within", "is_within", defArgs s_is_within, defBody s_is_within, defScope s_is_within, [], []⟩,
  ⟨("line_between", none), "line_between", "line_between", defArgs s_line_between, defBody s_line_between, defScope s_line_between, [], []⟩,
  ⟨("is_small_motion", none), "is_small_motion", "is_small_motion", defArgs s_is_small_motion, defBody s_is_small_motion, defScope s_is_small_motion, [], []⟩,
  ⟨("_law_pick", none), "_law_pick", "_law_pick", defArgs s_law_pick, defBody s_law_pick, defScope s_law_pick, [], []⟩,
  ⟨("_law_is_point", none), "_law_is_point", "_law_is_point", defArgs s_law_is_point, defBody s_law_is_point, defScope s_law_is_point, [], []⟩,
  ⟨("coordinate", none), "coordinate", "coordinate", defArgs s_coordinate, defBody s_coordinate, defScope s_coordinate, [], []⟩,
  ⟨("need_dimension", none), "need_dimension", "need_dimension", defArgs s_need_dimension, defBody s_need_dimension, defScope s_need_dimension, [], []⟩,
  ⟨("_law_far", none), "_law_far", "_law_far", defArgs s_law_far, defBody s_law_far, defScope s_law_far, [], []⟩,
  ⟨("_law_is_spot", none), "_law_is_spot", "_law_is_spot", defArgs s_law_is_spot, defBody s_law_is_spot, defScope s_law_is_spot, [], []⟩,
  ⟨("has_point_form", none), "has_point_form", "has_point_form", defArgs s_has_point_form, defBody s_has_point_form, defScope s_has_point_form, [], []⟩,
  ⟨("_law_number", none), "_law_number", "_law_number", defArgs s_law_number, defBody s_law_number, defScope s_law_number, [], []⟩,
  ⟨("has_spot_form", none), "has_spot_form", "has_spot_form", defArgs s_has_spot_form, defBody s_has_spot_form, defScope s_has_spot_form, [], []⟩,
  ⟨("has_any_point_form", none), "has_any_point_form", "has_any_point_form", defArgs s_has_any_point_form, defBody s_has_any_point_form, defScope s_has_any_point_form, [], []⟩,
  ⟨("is_point", none), "is_point", "is_point", defArgs s_is_point, defBody s_is_point, defScope s_is_point, [], []⟩,
  ⟨("speed", none), "speed", "speed", defArgs s_speed, defBody s_speed, defScope s_speed, [], []⟩,
  ⟨("_law_odd", none), "_law_odd", "_law_odd", defArgs s_law_odd, defBody s_law_odd, defScope s_law_odd, [], []⟩,
  ⟨("is_spot", none), "is_spot", "is_spot", defArgs s_is_spot, defBody s_is_spot, defScope s_is_spot, [], []⟩,
  ⟨("line", none), "line", "line", defArgs s_line, defBody s_line, defScope s_line, [], []⟩,
  ⟨("_law_looks_right", none), "_law_looks_right", "_law_looks_right", defArgs s_law_looks_right, defBody s_law_looks_right, defScope s_law_looks_right, [], []⟩,
  ⟨("_law_numbers_right", none), "_law_numbers_right", "_law_numbers_right", defArgs s_law_numbers_right, defBody s_law_numbers_right, defScope s_law_numbers_right, [], []⟩,
  ⟨("_law_refused", none), "_law_refused", "_law_refused", defArgs s_law_refused, defBody s_law_refused, defScope s_law_refused, [], []⟩,
  ⟨("law", none), "law", "law", defArgs s_law, defBody s_law, defScope s_law, [], []⟩]
def exl (K : PySem.W.Frag) : List Bool := [errB K (He.ga K "BadDimension"),
  (["value"] : List Str).all fun f => He.eqO (PySem.W.findIn K (.ref (He.ga K "BadDimension")) f) (some none),
  decide (PySem.W.kitOne K (.ref (He.ga K "BadDimension")) (.ref (He.ga K "BadDimension")) = some true),
  decide (PySem.W.kitOne K (.ref (He.ga K "BadDimension")) (.ref (He.ga K "BadName")) = some false),
  decide (PySem.W.kitOne K (.ref (He.ga K "BadDimension")) (.ref (He.ga K "BadNumber")) = some false),
  decide (PySem.W.exmOne K (.ref (He.ga K "BadDimension")) (.ref (He.ga K "GiveError")) = some true),
  decide (PySem.W.kitOne K (.ref (He.ga K "BadDimension")) (.ref (He.ga K "NoTie")) = some false),
  decide (PySem.W.kitOne K (.ref (He.ga K "BadDimension")) (.ref (He.ga K "TooMany")) = some false),
  errB K (He.ga K "BadName"),
  (["value"] : List Str).all fun f => He.eqO (PySem.W.findIn K (.ref (He.ga K "BadName")) f) (some none),
  decide (PySem.W.kitOne K (.ref (He.ga K "BadName")) (.ref (He.ga K "BadDimension")) = some false),
  decide (PySem.W.kitOne K (.ref (He.ga K "BadName")) (.ref (He.ga K "BadName")) = some true),
  decide (PySem.W.kitOne K (.ref (He.ga K "BadName")) (.ref (He.ga K "BadNumber")) = some false),
  decide (PySem.W.exmOne K (.ref (He.ga K "BadName")) (.ref (He.ga K "GiveError")) = some true),
  decide (PySem.W.kitOne K (.ref (He.ga K "BadName")) (.ref (He.ga K "NoTie")) = some false),
  decide (PySem.W.kitOne K (.ref (He.ga K "BadName")) (.ref (He.ga K "TooMany")) = some false),
  errB K (He.ga K "BadNumber"),
  (["part"] : List Str).all fun f => He.eqO (PySem.W.findIn K (.ref (He.ga K "BadNumber")) f) (some none),
  decide (PySem.W.kitOne K (.ref (He.ga K "BadNumber")) (.ref (He.ga K "BadDimension")) = some false),
  decide (PySem.W.kitOne K (.ref (He.ga K "BadNumber")) (.ref (He.ga K "BadName")) = some false),
  decide (PySem.W.kitOne K (.ref (He.ga K "BadNumber")) (.ref (He.ga K "BadNumber")) = some true),
  decide (PySem.W.exmOne K (.ref (He.ga K "BadNumber")) (.ref (He.ga K "GiveError")) = some true),
  decide (PySem.W.kitOne K (.ref (He.ga K "BadNumber")) (.ref (He.ga K "NoTie")) = some false),
  decide (PySem.W.kitOne K (.ref (He.ga K "BadNumber")) (.ref (He.ga K "TooMany")) = some false),
  kdp K (.tuple [(.str "hinge"), (.str "rod"), (.str "weld")]) (.ref (He.ga K "KINDS")),
  kdI K (He.ga K "WIDTHS") [(1, (.int 1)), (3, (.int 2)), (6, (.int 3))],
  (kdI K (He.ga K "WIDTHS") [(1, (.int 1)), (3, (.int 2)), (6, (.int 3))] && !(He.ga K "WIDTHS" == sysModules)),
  tabsB (tabs K)]
def exB (K : PySem.W.Frag) : Bool := (exl K).all id
theorem ef_mk {K : PySem.W.Frag} (h : exB K = true) : EF K := ⟨(errB_ok (all_at h 0 rfl)), (fun f hf => He.eqO_ok (List.all_eq_true.mp (all_at h 1 rfl) f hf)), (of_decide_eq_true (all_at h 2 rfl)), (of_decide_eq_true (all_at h 3 rfl)), (of_decide_eq_true (all_at h 4 rfl)), (of_decide_eq_true (all_at h 5 rfl)), (of_decide_eq_true (all_at h 6 rfl)), (of_decide_eq_true (all_at h 7 rfl)), (errB_ok (all_at h 8 rfl)), (fun f hf => He.eqO_ok (List.all_eq_true.mp (all_at h 9 rfl) f hf)), (of_decide_eq_true (all_at h 10 rfl)), (of_decide_eq_true (all_at h 11 rfl)), (of_decide_eq_true (all_at h 12 rfl)), (of_decide_eq_true (all_at h 13 rfl)), (of_decide_eq_true (all_at h 14 rfl)), (of_decide_eq_true (all_at h 15 rfl)), (errB_ok (all_at h 16 rfl)), (fun f hf => He.eqO_ok (List.all_eq_true.mp (all_at h 17 rfl) f hf)), (of_decide_eq_true (all_at h 18 rfl)), (of_decide_eq_true (all_at h 19 rfl)), (of_decide_eq_true (all_at h 20 rfl)), (of_decide_eq_true (all_at h 21 rfl)), (of_decide_eq_true (all_at h 22 rfl)), (of_decide_eq_true (all_at h 23 rfl)), ((all_at h 24 rfl)), ((all_at h 25 rfl)), ((all_at h 26 rfl))⟩
theorem top_mk {K : PySem.W.Frag} {h : Heap} {mg : Str → Option Value} (X : K.In h) (G : h.Ns mainGlobals mg) (c : He.SaysD facts fns K) (e : exB K = true) : Top K mg :=
  ⟨ef_mk e, all_at e 27 rfl, c.def_ 0 rfl, c.def_ 1 rfl, c.def_ 2 rfl, c.def_ 3 rfl, c.def_ 4 rfl, c.def_ 5 rfl, c.def_ 6 rfl, c.def_ 7 rfl, c.def_ 8 rfl, c.def_ 9 rfl, c.def_ 10 rfl, c.def_ 11 rfl, c.def_ 12 rfl, c.def_ 13 rfl, c.def_ 14 rfl, c.def_ 15 rfl, c.def_ 16 rfl, c.def_ 17 rfl, c.def_ 18 rfl, c.def_ 19 rfl, c.def_ 20 rfl, c.def_ 21 rfl, c.def_ 22 rfl, c.def_ 23 rfl, c.def_ 24 rfl, c.def_ 25 rfl, c.def_ 26 rfl, c.def_ 27 rfl, c.def_ 28 rfl, c.def_ 29 rfl, c.def_ 30 rfl, c.def_ 31 rfl, c.def_ 32 rfl, c.def_ 33 rfl, c.def_ 34 rfl, c.def_ 35 rfl, c.def_ 36 rfl, c.def_ 37 rfl,
   He.glo_ok X G (c.fact 0 rfl),
   He.glo_ok X G (c.fact 1 rfl),
   He.glo_ok X G (c.fact 2 rfl),
   He.glo_ok X G (c.fact 3 rfl),
   He.glo_ok X G (c.fact 4 rfl),
   He.glo_ok X G (c.fact 5 rfl),
   He.glo_ok X G (c.fact 6 rfl),
   He.glo_ok X G (c.fact 7 rfl),
   He.glo_ok X G (c.fact 8 rfl),
   He.glo_ok X G (c.fact 9 rfl),
   He.glo_ok X G (c.fact 10 rfl),
   He.glo_ok X G (c.fact 11 rfl),
   He.glo_ok X G (c.fact 12 rfl),
   He.glo_ok X G (c.fact 13 rfl),
   He.glo_ok X G (c.fact 14 rfl),
   He.glo_ok X G (c.fact 15 rfl),
   He.glo_ok X G (c.fact 16 rfl),
   He.glo_ok X G (c.fact 17 rfl),
   He.glo_ok X G (c.fact 18 rfl),
   He.glo_ok X G (c.fact 19 rfl),
   He.glo_ok X G (c.fact 20 rfl),
   He.glo_ok X G (c.fact 21 rfl),
   He.glo_ok X G (c.fact 22 rfl),
   He.glo_ok X G (c.fact 23 rfl),
   He.glo_ok X G (c.fact 24 rfl),
   He.glo_ok X G (c.fact 25 rfl),
   He.glo_ok X G (c.fact 26 rfl),
   He.glo_ok X G (c.fact 27 rfl),
   He.glo_ok X G (c.fact 28 rfl),
   He.glo_ok X G (c.fact 29 rfl),
   He.glo_ok X G (c.fact 30 rfl),
   He.glo_ok X G (c.fact 31 rfl),
   He.glo_ok X G (c.fact 32 rfl),
   He.glo_ok X G (c.fact 33 rfl),
   He.glo_ok X G (c.fact 34 rfl),
   He.glo_ok X G (c.fact 35 rfl),
   He.glo_ok X G (c.fact 36 rfl),
   He.glo_ok X G (c.fact 37 rfl),
   He.glo_ok X G (c.fact 38 rfl),
   He.glo_ok X G (c.fact 39 rfl),
   He.glo_ok X G (c.fact 40 rfl),
   He.free_ok X G (c.fact 41 rfl),
   He.free_ok X G (c.fact 42 rfl),
   He.free_ok X G (c.fact 43 rfl),
   He.free_ok X G (c.fact 44 rfl),
   He.free_ok X G (c.fact 45 rfl),
   He.free_ok X G (c.fact 46 rfl),
   He.free_ok X G (c.fact 47 rfl),
   He.free_ok X G (c.fact 48 rfl),
   He.free_ok X G (c.fact 49 rfl),
   He.free_ok X G (c.fact 50 rfl),
   He.free_ok X G (c.fact 51 rfl),
   He.free_ok X G (c.fact 52 rfl),
   He.free_ok X G (c.fact 53 rfl),
   He.glo_ok X G (c.fact 54 rfl),
   He.int_ok X G (c.fact 55 rfl),
   He.int_ok X G (c.fact 56 rfl),
   He.glo_ok X G (c.fact 57 rfl)⟩

end
end GW
namespace GW
section
open PySem L2
local macro_rules | `(tactic| walk_at "side") => `(tactic| first | with_reducible rfl | with_reducible assumption | omega | rfl | exact ⟨_, rfl⟩ | exact Nat.le_of_ble_eq_true rfl | decide | (unfold CDiv; omega) | (unfold CMul; omega) | (unfold CPow; omega))
/-- the goal's head form, what stands beside closed -/
local macro_rules | `(tactic| walk_at "s") => `(tactic| ((conv => whnf); repeat (refine And.intro (by walk_at "side") ?_; (conv => whnf))))
local macro_rules | `(tactic| walk_at "if") => `(tactic| first | refine brD ?_ ?_ | refine brN ?_ ?_ | refine brd ?_ ?_)
/-- an item at a written place of a list that stands -/
local macro_rules | `(tactic| walk_at "ix") => `(tactic| (refine Or.inl ⟨_, _, _, rfl, Or.inl (SqL.of ‹_›), rfl, ?_⟩; walk_at "s"))
/-- a new object: its heap, its content, what stood -/
local macro_rules | `(tactic| walk_at "new") => `(tactic| first | refine heapN (by assumption) ?_ | refine heapN2 (by assumption) ?_)
local macro_rules | `(tactic| walk_at "put") => `(tactic| first | refine heapS ?_ | refine heapS2 ?_)
/-- a new tuple taken apart into two, three names -/
local macro_rules | `(tactic| walk_at "tup2") => `(tactic| (refine ⟨_, _, rfl, SqT.of ‹_›, rfl, _, _, rfl, ?_⟩; (conv => whnf); refine ⟨_, _, rfl, ?_⟩; walk_at "s"))
local macro_rules | `(tactic| walk_at "tup3") => `(tactic| (refine ⟨_, _, rfl, SqT.of ‹_›, rfl, _, _, rfl, ?_⟩; (conv => whnf); refine ⟨_, _, rfl, ?_⟩; (conv => whnf); refine ⟨_, _, rfl, ?_⟩; walk_at "s"))
local macro_rules | `(tactic| walk_at "tup4") => `(tactic| (refine ⟨_, _, rfl, SqT.of ‹_›, rfl, _, _, rfl, ?_⟩; (conv => whnf); refine ⟨_, _, rfl, ?_⟩; (conv => whnf); refine ⟨_, _, rfl, ?_⟩; (conv => whnf); refine ⟨_, _, rfl, ?_⟩; walk_at "s"))
theorem ss_is_integer {K : PySem.W.Frag} : SS K (tabs K) E0 (t_is_integer K) m_is_integer :=
  (ss_ret (se_and (se_is1 .int (se_var 0)) (se_not (se_is1 .bl (se_var 0)))))
theorem ln_is_integer {K : PySem.W.Frag} : ∀ vs H Q E, sp_is_integer K vs H Q E → vs.length = 1 := len_P
theorem pu_is_integer {K : PySem.W.Frag} : ∀ vs H Q E, sp_is_integer K vs H Q E → t_is_integer K { nx := fun _ H' => Q .non H', rt := Q } (L2.start n_is_integer vs) H := ok_P (N := n_is_integer) (ss_is_integer)
theorem ss_kinds_in {K : PySem.W.Frag} (F : EF K) : SS K (tabs K) E0 (t_kinds_in K) m_kinds_in :=
  (ss_ret (se_if (st_test (se_op (s2_ord _ _) (se_var 0) (se_c_int 1))) (se_const F.k_KINDS rfl) (se_sl (se_const F.k_KINDS rfl) (so_part (se_c_int 1)) so_none)))
theorem ln_kinds_in {K : PySem.W.Frag} : ∀ vs H Q E, sp_kinds_in K vs H Q E → vs.length = 1 := len_P
theorem pu_kinds_in {K : PySem.W.Frag} (F : EF K) : ∀ vs H Q E, sp_kinds_in K vs H Q E → t_kinds_in K { nx := fun _ H' => Q .non H', rt := Q } (L2.start n_kinds_in vs) H := ok_P (N := n_kinds_in) (ss_kinds_in F)
theorem ss_points_in {K : PySem.W.Frag} : SS K (tabs K) E0 (t_points_in K) m_points_in :=
  (ss_ret (se_op s2_ix (se_disp (sps_cons (se_c_str "rod") (se_c_int 2) (sps_cons (se_c_str "hinge") (se_op s2_sub (se_var 0) (se_c_int 1)) (sps_cons (se_c_str "weld") (se_c_int 0) sps_nil)))) (se_var 1)))
theorem ln_points_in {K : PySem.W.Frag} : ∀ vs H Q E, sp_points_in K vs H Q E → vs.length = 2 := len_P
theorem pu_points_in {K : PySem.W.Frag} : ∀ vs H Q E, sp_points_in K vs H Q E → t_points_in K { nx := fun _ H' => Q .non H', rt := Q } (L2.start n_points_in vs) H := ok_P (N := n_points_in) (ss_points_in)
theorem ss_speed_rows {K : PySem.W.Frag} : SS K (tabs K) E0 (t_speed_rows K) m_speed_rows :=
  (ss_seq (ss_if (st_test (se_op s2_eq (se_cb sb_len (sa_cons (se_var 0) sa_nil)) (se_c_int 1))) (ss_ret (se_lst (sa_cons (se_tup (sa_cons (se_c_int 1) sa_nil)) sa_nil))) ss_next)
    (ss_seq (ss_if (st_test (se_op s2_eq (se_cb sb_len (sa_cons (se_var 0) sa_nil)) (se_c_int 2))) (ss_ret (se_lst (sa_cons (se_tup (sa_cons (se_c_int 1) (sa_cons (se_c_int 0) (sa_cons (se_neg (se_op s2_ix (se_var 0) (se_c_int 1))) sa_nil)))) (sa_cons (se_tup (sa_cons (se_c_int 0) (sa_cons (se_c_int 1) (sa_cons (se_op s2_ix (se_var 0) (se_c_int 0)) sa_nil)))) sa_nil)))) ss_next)
    (ss_seq (ss_asg (vs := [1, 2, 3]) (se_var 0) (sg_tup (sgs_cons (sg_name 1 (by decide)) (sgs_cons (sg_name 2 (by decide)) (sgs_cons (sg_name 3 (by decide)) sgs_nil)))))
    (ss_ret (se_lst (sa_cons (se_tup (sa_cons (se_c_int 1) (sa_cons (se_c_int 0) (sa_cons (se_c_int 0) (sa_cons (se_c_int 0) (sa_cons (se_var 3) (sa_cons (se_neg (se_var 2)) sa_nil))))))) (sa_cons (se_tup (sa_cons (se_c_int 0) (sa_cons (se_c_int 1) (sa_cons (se_c_int 0) (sa_cons (se_neg (se_var 3)) (sa_cons (se_c_int 0) (sa_cons (se_var 1) sa_nil))))))) (sa_cons (se_tup (sa_cons (se_c_int 0) (sa_cons (se_c_int 0) (sa_cons (se_c_int 1) (sa_cons (se_var 2) (sa_cons (se_neg (se_var 1)) (sa_cons (se_c_int 0) sa_nil))))))) sa_nil))))))))
theorem ln_speed_rows {K : PySem.W.Frag} : ∀ vs H Q E, sp_speed_rows K vs H Q E → vs.length = 1 := len_P
theorem pu_speed_rows {K : PySem.W.Frag} : ∀ vs H Q E, sp_speed_rows K vs H Q E → t_speed_rows K { nx := fun _ H' => Q .non H', rt := Q } (L2.start n_speed_rows vs) H := ok_P (N := n_speed_rows) (ss_speed_rows)
theorem ss_times {K : PySem.W.Frag} : SS K (tabs K) E0 (t_times K) m_times :=
  (ss_ret (se_cb sb_sum (sa_cons (se_lc (vs := [2, 3]) (si_zip (sa_cons (se_var 0) (sa_cons (se_var 1) sa_nil))) (sg_tup (sgs_cons (sg_name 2 (by decide)) (sgs_cons (sg_name 3 (by decide)) sgs_nil))) st_yes (se_op s2_mul (se_var 2) (se_var 3))) sa_nil)))
theorem ln_times {K : PySem.W.Frag} : ∀ vs H Q E, sp_times K vs H Q E → vs.length = 2 := len_P
theorem pu_times {K : PySem.W.Frag} : ∀ vs H Q E, sp_times K vs H Q E → t_times K { nx := fun _ H' => Q .non H', rt := Q } (L2.start n_times vs) H := ok_P (N := n_times) (ss_times)
theorem ln_law_pen {K : PySem.W.Frag} : ∀ vs H Q E, sp_law_pen K vs H Q E → vs.length = 1 := by rintro vs H Q E ⟨_, _, rfl, _⟩; rfl
theorem pu_law_pen {K : PySem.W.Frag} : ∀ vs H Q E, sp_law_pen K vs H Q E → t_law_pen K { nx := fun _ H' => Q .non H', rt := Q } (L2.start n_law_pen vs) H := by
  rintro vs H Q E ⟨a, ns, rfl, hs, hl, q⟩
  walk_at "s"
  refine Or.inl ?_
  walk_at "s"
  refine ⟨_, Or.inl ⟨hs, fun p hp => ?_⟩⟩
  rw [show cutV (ns.map V.int) none (some 60) = (ns.map V.int).take 60 from cut_to 60, ← List.map_take]
  generalize hG : upd H p _ = H1
  have h1 := hG ▸ upd_same (H := H) (a := p)
  have s1 : Same H H1 := hG ▸ same_new hp
  refine ⟨p, rfl, ⟨_, SqL.of h1⟩, ?_⟩
  intro D hD
  refine lc_fm walk_list onlyI hD ?_ at_YAt (fun H' s => SqL.of (s _ _ h1)) ?_ ?_
  · rw [List.length_map, List.length_take]; exact line1000 (by omega)
  · intro x H' Q' R hx s k1 _
    obtain ⟨z, hz, rfl⟩ := List.mem_map.mp hx
    walk_at "s"
    exact k1 H' _ (Same.refl _) rfl
  · intro H2 h2 s2
    rw [fm_ints] at h2
    walk_at "s"
    intro p3 hp3
    have n1 : D ≠ p3 := fun e => by rw [← e, h2] at hp3; cases hp3
    have n0 : ∀ b, H2 b = none → H b = none := fun b hb => by
      cases e : H b with
      | none => rfl
      | some o => rw [s2 _ _ (s1 _ _ e)] at hb; cases hb
    have nD : H D = none := by
      cases e : H D with
      | none => rfl
      | some o => rw [s1 _ _ e] at hD; cases hD
    refine q p3 D _ (n0 _ hp3) nD (fun b o e => (upd_ne (fun z => by rw [z, n0 _ hp3] at e; cases e)).trans (s2 _ _ (s1 _ _ e))) upd_same ?_
    rw [upd_ne n1]
    exact h2
theorem ss_law_draw {K : PySem.W.Frag} : SS K (tabs K) E0 (t_law_draw K) m_law_draw :=
  (ss_seq (ss_if (st_test (se_op (s2_ord _ _) (se_op s2_ix (se_var 0) (se_c_int 2)) (se_c_int 0))) (ss_seq (ss_asg (se_op s2_ix (se_var 0) (se_c_int 2)) (sg_name1 2))
    (ss_seq (ss_set (se_op s2_div (se_cb sb_int (sa_cons (se_var 2) sa_nil)) (se_var 1)) (se_var 0) (se_c_int 2))
    (ss_ret (se_op s2_mod (se_cb sb_int (sa_cons (se_var 2) sa_nil)) (se_var 1))))) ss_next)
    (ss_seq (ss_asg (se_op s2_ix (se_var 0) (se_c_int 1)) (sg_name1 3))
    (ss_seq (ss_set (se_op s2_add (se_var 3) (se_c_int 1)) (se_var 0) (se_c_int 1))
    (ss_seq (ss_asg (se_op s2_add (se_op s2_mul (se_c_int 50021) (se_var 3)) (se_c_int 7127)) (sg_name1 4))
    (ss_seq (ss_if (st_test (se_op s2_ne (se_op s2_ix (se_var 0) (se_c_int 0)) (se_lst sa_nil))) (ss_asg (se_op s2_ix (se_op s2_ix (se_var 0) (se_c_int 0)) (se_op s2_mod (se_cb sb_int (sa_cons (se_var 3) sa_nil)) (se_cb sb_len (sa_cons (se_op s2_ix (se_var 0) (se_c_int 0)) sa_nil)))) (sg_name1 4)) ss_next)
    (ss_seq (ss_if (st_and (st_test (se_op (s2_ord _ _) (se_var 3) (se_cb sb_len (sa_cons (se_op s2_ix (se_var 0) (se_c_int 0)) sa_nil)))) (st_test (se_op (s2_ord _ _) (se_cb sb_abs (sa_cons (se_var 4) sa_nil)) (se_op s2_pow (se_c_int 10) (se_c_int 18))))) (ss_seq (ss_asg (se_op s2_add (se_op s2_mul (se_c_int 2) (se_op s2_sub (se_cb sb_abs (sa_cons (se_var 4) sa_nil)) (se_op s2_pow (se_c_int 10) (se_c_int 18)))) (se_cb sb_int (sa_cons (se_op (s2_ord _ _) (se_var 4) (se_c_int 0)) sa_nil))) (sg_name1 2))
    (ss_seq (ss_set (se_op s2_div (se_cb sb_int (sa_cons (se_var 2) sa_nil)) (se_var 1)) (se_var 0) (se_c_int 2))
    (ss_ret (se_op s2_mod (se_cb sb_int (sa_cons (se_var 2) sa_nil)) (se_var 1))))) ss_next)
    (ss_seq (ss_asg (se_op s2_mod (se_cb sb_int (sa_cons (se_op s2_pow (se_op s2_add (se_op s2_add (se_op s2_mod (se_cb sb_int (sa_cons (se_var 4) sa_nil)) (se_c_int 2147483587)) (se_op s2_mul (se_c_int 50021) (se_var 3))) (se_c_int 7127)) (se_c_int 5)) sa_nil)) (se_c_int 2147483549)) (sg_name1 5))
    (ss_seq (ss_asg (se_op s2_mod (se_cb sb_int (sa_cons (se_op s2_pow (se_op s2_add (se_op s2_add (se_op s2_mul (se_var 5) (se_op s2_add (se_op s2_mul (se_c_int 2) (se_var 3)) (se_c_int 7127))) (se_op s2_mul (se_op s2_mul (se_c_int 33091) (se_var 3)) (se_var 3))) (se_c_int 50021)) (se_c_int 3)) sa_nil)) (se_c_int 2147483647)) (sg_name1 5))
    (ss_ret (se_op s2_mod (se_cb sb_int (sa_cons (se_op s2_div (se_var 5) (se_c_int 64)) sa_nil)) (se_var 1)))))))))))
theorem ln_law_draw {K : PySem.W.Frag} : ∀ vs H Q E, sp_law_draw K vs H Q E → vs.length = 2 := len_P
theorem pu_law_draw {K : PySem.W.Frag} : ∀ vs H Q E, sp_law_draw K vs H Q E → t_law_draw K { nx := fun _ H' => Q .non H', rt := Q } (L2.start n_law_draw vs) H := ok_P (N := n_law_draw) (ss_law_draw)
theorem ss_law_speed {K : PySem.W.Frag} : SS K (tabs K) E0 (t_law_speed K) m_law_speed :=
  (ss_seq (ss_if (st_test (se_op s2_eq (se_cb sb_len (sa_cons (se_var 1) sa_nil)) (se_c_int 1))) (ss_ret (se_lst (sa_cons (se_op s2_ix (se_var 0) (se_c_int 0)) sa_nil))) ss_next)
    (ss_seq (ss_if (st_test (se_op s2_eq (se_cb sb_len (sa_cons (se_var 1) sa_nil)) (se_c_int 2))) (ss_ret (se_lst (sa_cons (se_op s2_sub (se_op s2_ix (se_var 0) (se_c_int 0)) (se_op s2_mul (se_op s2_ix (se_var 0) (se_c_int 2)) (se_op s2_ix (se_var 1) (se_c_int 1)))) (sa_cons (se_op s2_add (se_op s2_ix (se_var 0) (se_c_int 1)) (se_op s2_mul (se_op s2_ix (se_var 0) (se_c_int 2)) (se_op s2_ix (se_var 1) (se_c_int 0)))) sa_nil)))) ss_next)
    (ss_seq (ss_asg (se_op s2_sub (se_op s2_add (se_op s2_ix (se_var 0) (se_c_int 0)) (se_op s2_mul (se_op s2_ix (se_var 0) (se_c_int 4)) (se_op s2_ix (se_var 1) (se_c_int 2)))) (se_op s2_mul (se_op s2_ix (se_var 0) (se_c_int 5)) (se_op s2_ix (se_var 1) (se_c_int 1)))) (sg_name1 2))
    (ss_seq (ss_asg (se_op s2_sub (se_op s2_add (se_op s2_ix (se_var 0) (se_c_int 1)) (se_op s2_mul (se_op s2_ix (se_var 0) (se_c_int 5)) (se_op s2_ix (se_var 1) (se_c_int 0)))) (se_op s2_mul (se_op s2_ix (se_var 0) (se_c_int 3)) (se_op s2_ix (se_var 1) (se_c_int 2)))) (sg_name1 3))
    (ss_ret (se_lst (sa_cons (se_var 2) (sa_cons (se_var 3) (sa_cons (se_op s2_sub (se_op s2_add (se_op s2_ix (se_var 0) (se_c_int 2)) (se_op s2_mul (se_op s2_ix (se_var 0) (se_c_int 3)) (se_op s2_ix (se_var 1) (se_c_int 1)))) (se_op s2_mul (se_op s2_ix (se_var 0) (se_c_int 4)) (se_op s2_ix (se_var 1) (se_c_int 0)))) sa_nil)))))))))
theorem ln_law_speed {K : PySem.W.Frag} : ∀ vs H Q E, sp_law_speed K vs H Q E → vs.length = 2 := len_P
theorem pu_law_speed {K : PySem.W.Frag} : ∀ vs H Q E, sp_law_speed K vs H Q E → t_law_speed K { nx := fun _ H' => Q .non H', rt := Q } (L2.start n_law_speed vs) H := ok_P (N := n_law_speed) (ss_law_speed)
theorem ss_law_units {K : PySem.W.Frag} : SS K (tabs K) E0 (t_law_units K) m_law_units :=
  (ss_ret (se_lc (vs := [1]) (si_rng1 (sa_cons (se_var 0) sa_nil)) (sg_name 1 (by decide)) st_yes (se_lc (vs := [2]) (si_rng1 (sa_cons (se_var 0) sa_nil)) (sg_name 2 (by decide)) st_yes (se_cb sb_int (sa_cons (se_op s2_eq (se_var 2) (se_var 1)) sa_nil)))))
theorem ln_law_units {K : PySem.W.Frag} : ∀ vs H Q E, sp_law_units K vs H Q E → vs.length = 1 := len_P
theorem pu_law_units {K : PySem.W.Frag} : ∀ vs H Q E, sp_law_units K vs H Q E → t_law_units K { nx := fun _ H' => Q .non H', rt := Q } (L2.start n_law_units vs) H := ok_P (N := n_law_units) (ss_law_units)
theorem pu_law_heard {K : PySem.W.Frag} (F : EF K) : ∀ (f c' : Addr) (q : Str) (T : XK → Hp → VK → Prop) (H : Hp) (Q : VK), H c' = some (LamX.CodeO c' q) → TT_law_heard K T H Q → t_law_heard K f c' q T { nx := fun _ H' => Q .non H', rt := Q } (L2.start n_law_heard [.ref f]) H := by
  rintro f c' q T H Q code ⟨C, s, r, st, body, fin⟩
  walk_at "s"
  intro p hp
  generalize hG : upd H p _ = H1
  have h1 : H1 p = some (.lst []) := hG ▸ upd_same (H := H) (a := p)
  have s1 : Same H H1 := hG ▸ same_new hp
  have st1 : Stt (tabs K) (C.plus p) H1 s := hG ▸ stt_plus (o := .lst []) st hp (fun _ z => nomatch z)
  have l := le_plus (C := C) hp
  have nO : p ∉ (C.plus p).own := Cc.off (C := C) (st.off hp)
  walk_at "s"
  cases r with
  | bad => exact False.elim fin
  | ok d s' =>
    refine ⟨_, _, rfl, rfl, s1 _ _ code, fun _ _ _ => False, fun _ _ _ z => z.elim, ?_⟩
    refine body (C.plus p) H1 _ _ l (same_keep s1) st1 (fun v G k t dv => ?_)
    walk_at "s"
    exact fin .non G (l.keep ((same_keep s1 : Keep (C.plus p) H H1).trans k)) (l.stt t st) .non
  | er x ns ds s' =>
    refine ⟨_, _, rfl, rfl, s1 _ _ code, fun cls d G => ∃ vs dd, d = some dd ∧ cls = .ref (He.ga K x) ∧ Keep (C.plus p) H1 G ∧ Stt (tabs K) (C.plus p) G s' ∧ G dd = some (.xd (ns.zip vs)) ∧ ns.length = vs.length ∧ DvA K (C.plus p) G vs ds, ?_, body (C.plus p) H1 _ _ l (same_keep s1) st1 (fun vs dd G k t e ln dv => ⟨vs, dd, rfl, rfl, k, t, e, ln, dv⟩)⟩
    rintro cls d G ⟨vs, dd, rfl, rfl, k, t, g2, ln, dv⟩
    have g1 : G p = some (.lst []) := k p (.lst []) nO (fun _ z => nomatch z) h1
    unfold hm_law_heard at fin
    dsimp only at fin
    by_cases x1 : x = "BadDimension" ∧ ns = (["value"] : List Str)
    · rw [if_pos x1] at fin
      obtain ⟨rfl, rfl⟩ := x1
      cases dv with
      | nil => cases ln
      | @cons v_value d_value _ _ a_value r0 =>
        cases r0 with
        | cons _ _ => cases ln
        | nil =>
          refine ⟨true, F.m_BadDimension_GiveError, (fun z => nomatch z), fun _ a na => ?_⟩
          walk_at "s"
          generalize hG2 : upd G a _ = G2
          have ga := hG2 ▸ upd_same (H := G) (a := a)
          have s2 : Same G G2 := hG2 ▸ same_new na
          have ep : a ≠ p := fun z => by rw [z, g1] at na; cases na
          have dp : dd ≠ p := fun z => by rw [z, g1] at g2; cases g2
          walk_at "s"
          have g2' := s2 _ _ g2
          have g1' := s2 _ _ g1
          refine ⟨a, _, _, some dd, _, rfl, ga, fun _ => ⟨dd, _, rfl, g2'⟩, F.e_BadDimension.xc, F.i_BadDimension_BadDimension, ?_⟩
          walk_at "s"
          refine ⟨Or.inl ⟨rfl, _, SqL.of g1'⟩, ?_⟩
          walk_at "s"
          refine ⟨a, _, dd, _, v_value, rfl, ga, g2', F.e_BadDimension.xf, F.n_BadDimension "value" (by simp), rfl, ?_⟩
          walk_at "s"
          intro r nr
          generalize hG3 : upd G2 r _ = G3
          have h3 := hG3 ▸ upd_same (H := G2) (a := r)
          have s3 : Same G2 G3 := hG3 ▸ same_new nr
          walk_at "s"
          refine ⟨p, [], _, rfl, rfl, s3 _ _ g1', by decide, ?_⟩
          generalize hG4 : upd G3 p _ = G4
          have h4 : G4 p = some (.lst [.ref r]) := hG4 ▸ upd_same (H := G3) (a := p)
          have k4 : Kp p G3 G4 := hG4 ▸ Kp.upd (Kp.refl G3)
          have ga4 := k4 _ _ ep (s3 _ _ ga)
          have g24 := k4 _ _ dp (s3 _ _ g2')
          walk_at "s"
          refine ⟨a, _, _, some dd, _, rfl, ga4, fun _ => ⟨dd, _, rfl, g24⟩, F.e_BadDimension.xc, F.i_BadDimension_BadName, ?_⟩
          walk_at "s"
          refine ⟨a, _, _, some dd, _, rfl, ga4, fun _ => ⟨dd, _, rfl, g24⟩, F.e_BadDimension.xc, F.i_BadDimension_BadNumber, ?_⟩
          walk_at "s"
          refine ⟨a, _, _, some dd, _, rfl, ga4, fun _ => ⟨dd, _, rfl, g24⟩, F.e_BadDimension.xc, F.i_BadDimension_NoTie, ?_⟩
          walk_at "s"
          refine ⟨a, _, _, some dd, _, rfl, ga4, fun _ => ⟨dd, _, rfl, g24⟩, F.e_BadDimension.xc, F.i_BadDimension_TooMany, ?_⟩
          walk_at "s"
          refine ⟨_, Or.inl ⟨_, Or.inl (SqL.of h4), rfl⟩, ?_⟩
          walk_at "s"
          refine Or.inl ⟨_, _, _, rfl, Or.inl (SqL.of h4), rfl, ?_⟩
          walk_at "s"
          subst hG4 hG3
          exact heard_end (ds := [.str "BadDimension", d_value]) st hp s1 k t s2 nr g1 (.cons (.str _) (.cons a_value .nil)) fin
    rw [if_neg x1] at fin
    clear x1
    by_cases x1 : x = "BadName" ∧ ns = (["value"] : List Str)
    · rw [if_pos x1] at fin
      obtain ⟨rfl, rfl⟩ := x1
      cases dv with
      | nil => cases ln
      | @cons v_value d_value _ _ a_value r0 =>
        cases r0 with
        | cons _ _ => cases ln
        | nil =>
          refine ⟨true, F.m_BadName_GiveError, (fun z => nomatch z), fun _ a na => ?_⟩
          walk_at "s"
          generalize hG2 : upd G a _ = G2
          have ga := hG2 ▸ upd_same (H := G) (a := a)
          have s2 : Same G G2 := hG2 ▸ same_new na
          have ep : a ≠ p := fun z => by rw [z, g1] at na; cases na
          have dp : dd ≠ p := fun z => by rw [z, g1] at g2; cases g2
          walk_at "s"
          have g2' := s2 _ _ g2
          have g1' := s2 _ _ g1
          refine ⟨a, _, _, some dd, _, rfl, ga, fun _ => ⟨dd, _, rfl, g2'⟩, F.e_BadName.xc, F.i_BadName_BadDimension, ?_⟩
          walk_at "s"
          refine ⟨a, _, _, some dd, _, rfl, ga, fun _ => ⟨dd, _, rfl, g2'⟩, F.e_BadName.xc, F.i_BadName_BadName, ?_⟩
          walk_at "s"
          refine ⟨Or.inl ⟨rfl, _, SqL.of g1'⟩, ?_⟩
          walk_at "s"
          refine ⟨a, _, dd, _, v_value, rfl, ga, g2', F.e_BadName.xf, F.n_BadName "value" (by simp), rfl, ?_⟩
          walk_at "s"
          intro r nr
          generalize hG3 : upd G2 r _ = G3
          have h3 := hG3 ▸ upd_same (H := G2) (a := r)
          have s3 : Same G2 G3 := hG3 ▸ same_new nr
          walk_at "s"
          refine ⟨p, [], _, rfl, rfl, s3 _ _ g1', by decide, ?_⟩
          generalize hG4 : upd G3 p _ = G4
          have h4 : G4 p = some (.lst [.ref r]) := hG4 ▸ upd_same (H := G3) (a := p)
          have k4 : Kp p G3 G4 := hG4 ▸ Kp.upd (Kp.refl G3)
          have ga4 := k4 _ _ ep (s3 _ _ ga)
          have g24 := k4 _ _ dp (s3 _ _ g2')
          walk_at "s"
          refine ⟨a, _, _, some dd, _, rfl, ga4, fun _ => ⟨dd, _, rfl, g24⟩, F.e_BadName.xc, F.i_BadName_BadNumber, ?_⟩
          walk_at "s"
          refine ⟨a, _, _, some dd, _, rfl, ga4, fun _ => ⟨dd, _, rfl, g24⟩, F.e_BadName.xc, F.i_BadName_NoTie, ?_⟩
          walk_at "s"
          refine ⟨a, _, _, some dd, _, rfl, ga4, fun _ => ⟨dd, _, rfl, g24⟩, F.e_BadName.xc, F.i_BadName_TooMany, ?_⟩
          walk_at "s"
          refine ⟨_, Or.inl ⟨_, Or.inl (SqL.of h4), rfl⟩, ?_⟩
          walk_at "s"
          refine Or.inl ⟨_, _, _, rfl, Or.inl (SqL.of h4), rfl, ?_⟩
          walk_at "s"
          subst hG4 hG3
          exact heard_end (ds := [.str "BadName", d_value]) st hp s1 k t s2 nr g1 (.cons (.str _) (.cons a_value .nil)) fin
    rw [if_neg x1] at fin
    clear x1
    by_cases x1 : x = "BadNumber" ∧ ns = (["part"] : List Str)
    · rw [if_pos x1] at fin
      obtain ⟨rfl, rfl⟩ := x1
      cases dv with
      | nil => cases ln
      | @cons v_part d_part _ _ a_part r0 =>
        cases r0 with
        | cons _ _ => cases ln
        | nil =>
          refine ⟨true, F.m_BadNumber_GiveError, (fun z => nomatch z), fun _ a na => ?_⟩
          walk_at "s"
          generalize hG2 : upd G a _ = G2
          have ga := hG2 ▸ upd_same (H := G) (a := a)
          have s2 : Same G G2 := hG2 ▸ same_new na
          have ep : a ≠ p := fun z => by rw [z, g1] at na; cases na
          have dp : dd ≠ p := fun z => by rw [z, g1] at g2; cases g2
          walk_at "s"
          have g2' := s2 _ _ g2
          have g1' := s2 _ _ g1
          refine ⟨a, _, _, some dd, _, rfl, ga, fun _ => ⟨dd, _, rfl, g2'⟩, F.e_BadNumber.xc, F.i_BadNumber_BadDimension, ?_⟩
          walk_at "s"
          refine ⟨a, _, _, some dd, _, rfl, ga, fun _ => ⟨dd, _, rfl, g2'⟩, F.e_BadNumber.xc, F.i_BadNumber_BadName, ?_⟩
          walk_at "s"
          refine ⟨a, _, _, some dd, _, rfl, ga, fun _ => ⟨dd, _, rfl, g2'⟩, F.e_BadNumber.xc, F.i_BadNumber_BadNumber, ?_⟩
          walk_at "s"
          refine ⟨Or.inl ⟨rfl, _, SqL.of g1'⟩, ?_⟩
          walk_at "s"
          refine ⟨a, _, dd, _, v_part, rfl, ga, g2', F.e_BadNumber.xf, F.n_BadNumber "part" (by simp), rfl, ?_⟩
          walk_at "s"
          intro r nr
          generalize hG3 : upd G2 r _ = G3
          have h3 := hG3 ▸ upd_same (H := G2) (a := r)
          have s3 : Same G2 G3 := hG3 ▸ same_new nr
          walk_at "s"
          refine ⟨p, [], _, rfl, rfl, s3 _ _ g1', by decide, ?_⟩
          generalize hG4 : upd G3 p _ = G4
          have h4 : G4 p = some (.lst [.ref r]) := hG4 ▸ upd_same (H := G3) (a := p)
          have k4 : Kp p G3 G4 := hG4 ▸ Kp.upd (Kp.refl G3)
          have ga4 := k4 _ _ ep (s3 _ _ ga)
          have g24 := k4 _ _ dp (s3 _ _ g2')
          walk_at "s"
          refine ⟨a, _, _, some dd, _, rfl, ga4, fun _ => ⟨dd, _, rfl, g24⟩, F.e_BadNumber.xc, F.i_BadNumber_NoTie, ?_⟩
          walk_at "s"
          refine ⟨a, _, _, some dd, _, rfl, ga4, fun _ => ⟨dd, _, rfl, g24⟩, F.e_BadNumber.xc, F.i_BadNumber_TooMany, ?_⟩
          walk_at "s"
          refine ⟨_, Or.inl ⟨_, Or.inl (SqL.of h4), rfl⟩, ?_⟩
          walk_at "s"
          refine Or.inl ⟨_, _, _, rfl, Or.inl (SqL.of h4), rfl, ?_⟩
          walk_at "s"
          subst hG4 hG3
          exact heard_end (ds := [.str "BadNumber", d_part]) st hp s1 k t s2 nr g1 (.cons (.str _) (.cons a_part .nil)) fin
    rw [if_neg x1] at fin
    clear x1
    exact False.elim fin
theorem ss_law_says {K : PySem.W.Frag} : SS K (tabs K) E0 (t_law_says K) m_law_says :=
  (ss_ret (se_if (st_tru (se_var 1)) (se_op (s2_is false) (se_var 0) (se_c_bl true)) (se_op (s2_is false) (se_var 0) (se_c_bl false))))
theorem ln_law_says {K : PySem.W.Frag} : ∀ vs H Q E, sp_law_says K vs H Q E → vs.length = 2 := len_P
theorem pu_law_says {K : PySem.W.Frag} : ∀ vs H Q E, sp_law_says K vs H Q E → t_law_says K { nx := fun _ H' => Q .non H', rt := Q } (L2.start n_law_says vs) H := ok_P (N := n_law_says) (ss_law_says)
theorem ss_law_is_coordinate {K : PySem.W.Frag} : SS K (tabs K) E0 (t_law_is_coordinate K) m_law_is_coordinate :=
  (ss_ret (se_and (se_is1 .int (se_var 0)) (se_and (se_not (se_is1 .bl (se_var 0))) (se_op (s2_ord _ _) (se_cb sb_abs (sa_cons (se_var 0) sa_nil)) (se_op s2_pow (se_c_int 10) (se_c_int 12))))))
theorem ln_law_is_coordinate {K : PySem.W.Frag} : ∀ vs H Q E, sp_law_is_coordinate K vs H Q E → vs.length = 1 := len_P
theorem pu_law_is_coordinate {K : PySem.W.Frag} : ∀ vs H Q E, sp_law_is_coordinate K vs H Q E → t_law_is_coordinate K { nx := fun _ H' => Q .non H', rt := Q } (L2.start n_law_is_coordinate vs) H := ok_P (N := n_law_is_coordinate) (ss_law_is_coordinate)
theorem ss_law_same {K : PySem.W.Frag} : SS K (tabs K) E0 (t_law_same K) m_law_same :=
  (ss_seq (ss_if (st_or (st_not (st_test (se_is1 .tup (se_var 0)))) (st_test (se_op s2_ne (se_cb sb_len (sa_cons (se_var 0) sa_nil)) (se_cb sb_len (sa_cons (se_var 1) sa_nil))))) (ss_ret (se_c_bl false)) ss_next)
    (ss_ret (se_cb sb_all (sa_cons (se_lc (vs := [2]) (si_rng1 (sa_cons (se_cb sb_len (sa_cons (se_var 1) sa_nil)) sa_nil)) (sg_name 2 (by decide)) st_yes (se_and (se_is1 .int (se_op s2_ix (se_var 0) (se_var 2))) (se_and (se_not (se_is1 .bl (se_op s2_ix (se_var 0) (se_var 2)))) (se_op s2_eq (se_op s2_ix (se_var 0) (se_var 2)) (se_op s2_ix (se_var 1) (se_var 2)))))) sa_nil))))
theorem ln_law_same {K : PySem.W.Frag} : ∀ vs H Q E, sp_law_same K vs H Q E → vs.length = 2 := len_P
theorem pu_law_same {K : PySem.W.Frag} : ∀ vs H Q E, sp_law_same K vs H Q E → t_law_same K { nx := fun _ H' => Q .non H', rt := Q } (L2.start n_law_same vs) H := ok_P (N := n_law_same) (ss_law_same)
theorem ss_is_within {K : PySem.W.Frag} : SS K (tabs K) E0 (t_is_within K) m_is_within :=
  (ss_ret (se_and (se_callP (sa_cons (se_var 0) sa_nil)) (se_chain (s2_ord _ _) (s2_ord _ _) (se_var 1) (se_var 0) (se_var 2))))
theorem ln_is_within {K : PySem.W.Frag} : ∀ vs H Q E, sp_is_within K vs H Q E → vs.length = 3 := len_P
theorem pu_is_within {K : PySem.W.Frag} : ∀ vs H Q E, sp_is_within K vs H Q E → t_is_within K { nx := fun _ H' => Q .non H', rt := Q } (L2.start n_is_within vs) H := ok_P (N := n_is_within) (ss_is_within)
theorem ss_line_between {K : PySem.W.Frag} : SS K (tabs K) E0 (t_line_between K) m_line_between :=
  (ss_seq (ss_asg (se_lc (vs := [4, 5]) (si_zip (sa_cons (se_var 0) (sa_cons (se_var 1) sa_nil))) (sg_tup (sgs_cons (sg_name 4 (by decide)) (sgs_cons (sg_name 5 (by decide)) sgs_nil))) st_yes (se_op s2_sub (se_var 5) (se_var 4))) (sg_name1 2))
    (ss_seq (ss_asg (se_callP (sa_cons (se_var 0) sa_nil)) (sg_name1 3))
    (ss_ret (se_cb sb_tup (sa_cons (se_lc (vs := [6]) (si_rng1 (sa_cons (se_cb sb_len (sa_cons (se_op s2_ix (se_var 3) (se_c_int 0)) sa_nil)) sa_nil)) (sg_name 6 (by decide)) st_yes (se_cb sb_sum (sa_cons (se_lc (vs := [7, 8]) (si_enum (sa_cons (se_var 3) sa_nil)) (sg_tup (sgs_cons (sg_name 7 (by decide)) (sgs_cons (sg_name 8 (by decide)) sgs_nil))) st_yes (se_op s2_mul (se_op s2_ix (se_var 2) (se_var 7)) (se_op s2_ix (se_var 8) (se_var 6)))) sa_nil))) sa_nil)))))
theorem ln_line_between {K : PySem.W.Frag} : ∀ vs H Q E, sp_line_between K vs H Q E → vs.length = 2 := len_P
theorem pu_line_between {K : PySem.W.Frag} : ∀ vs H Q E, sp_line_between K vs H Q E → t_line_between K { nx := fun _ H' => Q .non H', rt := Q } (L2.start n_line_between vs) H := ok_P (N := n_line_between) (ss_line_between)
theorem ss_is_small_motion {K : PySem.W.Frag} : SS K (tabs K) E0 (t_is_small_motion K) m_is_small_motion :=
  (ss_ret (se_and (se_is1 .tup (se_var 1)) (se_and (se_op s2_eq (se_cb sb_len (sa_cons (se_var 1) sa_nil)) (se_var 0)) (se_cb sb_all (sa_cons (se_lc (vs := [2]) (si_it (se_var 1)) (sg_name 2 (by decide)) st_yes (se_callP (sa_cons (se_var 2) sa_nil))) sa_nil)))))
theorem ln_is_small_motion {K : PySem.W.Frag} : ∀ vs H Q E, sp_is_small_motion K vs H Q E → vs.length = 2 := len_P
theorem pu_is_small_motion {K : PySem.W.Frag} : ∀ vs H Q E, sp_is_small_motion K vs H Q E → t_is_small_motion K { nx := fun _ H' => Q .non H', rt := Q } (L2.start n_is_small_motion vs) H := ok_P (N := n_is_small_motion) (ss_is_small_motion)
theorem ss_law_pick {K : PySem.W.Frag} : SS K (tabs K) E0 (t_law_pick K) m_law_pick :=
  (ss_ret (se_op s2_ix (se_var 1) (se_callP (sa_cons (se_var 0) (sa_cons (se_cb sb_len (sa_cons (se_var 1) sa_nil)) sa_nil)))))
theorem ln_law_pick {K : PySem.W.Frag} : ∀ vs H Q E, sp_law_pick K vs H Q E → vs.length = 2 := len_P
theorem pu_law_pick {K : PySem.W.Frag} : ∀ vs H Q E, sp_law_pick K vs H Q E → t_law_pick K { nx := fun _ H' => Q .non H', rt := Q } (L2.start n_law_pick vs) H := ok_P (N := n_law_pick) (ss_law_pick)
theorem ss_law_is_point {K : PySem.W.Frag} : SS K (tabs K) E0 (t_law_is_point K) m_law_is_point :=
  (ss_ret (se_and (se_is1 .tup (se_var 1)) (se_and (se_op s2_eq (se_cb sb_len (sa_cons (se_var 1) sa_nil)) (se_var 0)) (se_cb sb_all (sa_cons (se_lc (vs := [2]) (si_it (se_var 1)) (sg_name 2 (by decide)) st_yes (se_callP (sa_cons (se_var 2) sa_nil))) sa_nil)))))
theorem ln_law_is_point {K : PySem.W.Frag} : ∀ vs H Q E, sp_law_is_point K vs H Q E → vs.length = 2 := len_P
theorem pu_law_is_point {K : PySem.W.Frag} : ∀ vs H Q E, sp_law_is_point K vs H Q E → t_law_is_point K { nx := fun _ H' => Q .non H', rt := Q } (L2.start n_law_is_point vs) H := ok_P (N := n_law_is_point) (ss_law_is_point)
theorem ss_coordinate {K : PySem.W.Frag} : SS K (tabs K) E0 (t_coordinate K) m_coordinate :=
  (ss_ret (se_callP (sa_cons (se_var 0) (sa_cons (se_neg (se_c_int 999999999999)) (sa_cons (se_c_int 999999999999) sa_nil)))))
theorem ln_coordinate {K : PySem.W.Frag} : ∀ vs H Q E, sp_coordinate K vs H Q E → vs.length = 1 := len_P
theorem pu_coordinate {K : PySem.W.Frag} : ∀ vs H Q E, sp_coordinate K vs H Q E → t_coordinate K { nx := fun _ H' => Q .non H', rt := Q } (L2.start n_coordinate vs) H := ok_P (N := n_coordinate) (ss_coordinate)
theorem ss_need_dimension {K : PySem.W.Frag} {E : XK} : SS K (tabs K) E (t_need_dimension K E) m_need_dimension :=
  (ss_if (st_not (st_test (se_callP (sa_cons (se_var 0) (sa_cons (se_c_int 1) (sa_cons (se_c_int 3) sa_nil)))))) (ss_raise (sa_cons (se_var 0) sa_nil)) ss_next)
theorem ln_need_dimension {K : PySem.W.Frag} : ∀ vs H Q E, sp_need_dimension K vs H Q E → vs.length = 1 := len_M
theorem pu_need_dimension {K : PySem.W.Frag} : ∀ vs H Q E, sp_need_dimension K vs H Q E → t_need_dimension K E { nx := fun _ H' => Q .non H', rt := Q } (L2.start n_need_dimension vs) H := fun vs H Q E h => ok_M (N := n_need_dimension) (ss_need_dimension (E := E)) vs H Q h
theorem ss_law_far {K : PySem.W.Frag} : SS K (tabs K) E0 (t_law_far K) m_law_far :=
  (ss_seq (ss_if (st_test (se_op s2_eq (se_callP (sa_cons (se_var 0) (sa_cons (se_c_int 6) sa_nil))) (se_c_int 0))) (ss_ret (se_callP (sa_cons (se_var 0) (sa_cons (se_lst (sa_cons (se_c_int 999999999999) (sa_cons (se_neg (se_c_int 999999999999)) sa_nil))) sa_nil)))) ss_next)
    (ss_ret (se_op s2_mul (se_op s2_sub (se_c_int 1) (se_op s2_mul (se_c_int 2) (se_callP (sa_cons (se_var 0) (sa_cons (se_c_int 2) sa_nil))))) (se_op s2_add (se_op s2_mul (se_callP (sa_cons (se_var 0) (sa_cons (se_op s2_pow (se_c_int 10) (se_c_int 6)) sa_nil))) (se_op s2_pow (se_c_int 10) (se_c_int 6))) (se_callP (sa_cons (se_var 0) (sa_cons (se_op s2_pow (se_c_int 10) (se_c_int 6)) sa_nil)))))))
theorem ln_law_far {K : PySem.W.Frag} : ∀ vs H Q E, sp_law_far K vs H Q E → vs.length = 1 := len_P
theorem pu_law_far {K : PySem.W.Frag} : ∀ vs H Q E, sp_law_far K vs H Q E → t_law_far K { nx := fun _ H' => Q .non H', rt := Q } (L2.start n_law_far vs) H := ok_P (N := n_law_far) (ss_law_far)
theorem ss_law_is_spot {K : PySem.W.Frag} : SS K (tabs K) E0 (t_law_is_spot K) m_law_is_spot :=
  (ss_seq (ss_asg (se_if (st_test (se_op s2_eq (se_var 1) (se_c_str "rod"))) (se_c_int 2) (se_if (st_test (se_op s2_eq (se_var 1) (se_c_str "hinge"))) (se_op s2_sub (se_var 0) (se_c_int 1)) (se_c_int 0))) (sg_name1 3))
    (ss_ret (se_and (se_is1 .tup (se_var 2)) (se_and (se_op s2_eq (se_cb sb_len (sa_cons (se_var 2) sa_nil)) (se_var 3)) (se_cb sb_all (sa_cons (se_lc (vs := [4]) (si_it (se_var 2)) (sg_name 4 (by decide)) st_yes (se_callP (sa_cons (se_var 0) (sa_cons (se_var 4) sa_nil)))) sa_nil))))))
theorem ln_law_is_spot {K : PySem.W.Frag} : ∀ vs H Q E, sp_law_is_spot K vs H Q E → vs.length = 3 := len_P
theorem pu_law_is_spot {K : PySem.W.Frag} : ∀ vs H Q E, sp_law_is_spot K vs H Q E → t_law_is_spot K { nx := fun _ H' => Q .non H', rt := Q } (L2.start n_law_is_spot vs) H := ok_P (N := n_law_is_spot) (ss_law_is_spot)
theorem ss_has_point_form {K : PySem.W.Frag} : SS K (tabs K) E0 (t_has_point_form K) m_has_point_form :=
  (ss_seq (ss_if (st_or (st_not (st_test (se_is1 .tup (se_var 1)))) (st_test (se_op s2_ne (se_cb sb_len (sa_cons (se_var 1) sa_nil)) (se_var 0)))) (ss_ret (se_c_bl false)) ss_next)
    (ss_ret (se_cb sb_all (sa_cons (se_lc (vs := [2]) (si_it (se_var 1)) (sg_name 2 (by decide)) st_yes (se_callP (sa_cons (se_var 2) sa_nil))) sa_nil))))
theorem ln_has_point_form {K : PySem.W.Frag} : ∀ vs H Q E, sp_has_point_form K vs H Q E → vs.length = 2 := len_P
theorem pu_has_point_form {K : PySem.W.Frag} : ∀ vs H Q E, sp_has_point_form K vs H Q E → t_has_point_form K { nx := fun _ H' => Q .non H', rt := Q } (L2.start n_has_point_form vs) H := ok_P (N := n_has_point_form) (ss_has_point_form)
theorem ss_law_number {K : PySem.W.Frag} : SS K (tabs K) E0 (t_law_number K) m_law_number :=
  (ss_seq (ss_asg (se_callP (sa_cons (se_var 0) (sa_cons (se_lst (sa_cons (se_c_int 3) (sa_cons (se_c_int 40) (sa_cons (se_op s2_pow (se_c_int 10) (se_c_int 6)) sa_nil)))) sa_nil))) (sg_name1 1))
    (ss_seq (ss_asg (se_callP (sa_cons (se_var 0) (sa_cons (se_lst (sa_cons (se_c_int 999999999999) (sa_cons (se_c_int 999999999998) (sa_cons (se_op s2_pow (se_c_int 10) (se_c_int 12)) (sa_cons (se_callP (sa_cons (se_var 0) sa_nil)) (sa_cons (se_op s2_pow (se_c_int 10) (se_c_int 40)) sa_nil)))))) sa_nil))) (sg_name1 2))
    (ss_seq (ss_par (sa_cons (se_callP (sa_cons (se_var 0) (sa_cons (se_c_int 5) sa_nil))) (sa_cons (se_op s2_sub (se_c_int 1) (se_op s2_mul (se_c_int 2) (se_callP (sa_cons (se_var 0) (sa_cons (se_c_int 2) sa_nil))))) sa_nil)))
    (ss_ret (se_if (st_test (se_op s2_eq (se_var 3) (se_c_int 0))) (se_op s2_mul (se_var 4) (se_var 2)) (se_op s2_sub (se_callP (sa_cons (se_var 0) (sa_cons (se_op s2_add (se_op s2_mul (se_c_int 2) (se_var 1)) (se_c_int 1)) sa_nil))) (se_var 1)))))))
theorem ln_law_number {K : PySem.W.Frag} : ∀ vs H Q E, sp_law_number K vs H Q E → vs.length = 1 := len_P
theorem pu_law_number {K : PySem.W.Frag} : ∀ vs H Q E, sp_law_number K vs H Q E → t_law_number K { nx := fun _ H' => Q .non H', rt := Q } (L2.start n_law_number vs) H := ok_P (N := n_law_number) (ss_law_number)
theorem ss_has_spot_form {K : PySem.W.Frag} : SS K (tabs K) E0 (t_has_spot_form K) m_has_spot_form :=
  (ss_seq (ss_if (st_or (st_not (st_test (se_is1 .tup (se_var 2)))) (st_test (se_op s2_ne (se_cb sb_len (sa_cons (se_var 2) sa_nil)) (se_callP (sa_cons (se_var 0) (sa_cons (se_var 1) sa_nil)))))) (ss_ret (se_c_bl false)) ss_next)
    (ss_ret (se_cb sb_all (sa_cons (se_lc (vs := [3]) (si_it (se_var 2)) (sg_name 3 (by decide)) st_yes (se_callP (sa_cons (se_var 0) (sa_cons (se_var 3) sa_nil)))) sa_nil))))
theorem ln_has_spot_form {K : PySem.W.Frag} : ∀ vs H Q E, sp_has_spot_form K vs H Q E → vs.length = 3 := len_P
theorem pu_has_spot_form {K : PySem.W.Frag} : ∀ vs H Q E, sp_has_spot_form K vs H Q E → t_has_spot_form K { nx := fun _ H' => Q .non H', rt := Q } (L2.start n_has_spot_form vs) H := ok_P (N := n_has_spot_form) (ss_has_spot_form)
theorem ss_has_any_point_form {K : PySem.W.Frag} : SS K (tabs K) E0 (t_has_any_point_form K) m_has_any_point_form :=
  (ss_ret (se_and (se_is1 .tup (se_var 0)) (se_and (se_chain (s2_ord _ _) (s2_ord _ _) (se_c_int 1) (se_cb sb_len (sa_cons (se_var 0) sa_nil)) (se_c_int 3)) (se_callP (sa_cons (se_cb sb_len (sa_cons (se_var 0) sa_nil)) (sa_cons (se_var 0) sa_nil))))))
theorem ln_has_any_point_form {K : PySem.W.Frag} : ∀ vs H Q E, sp_has_any_point_form K vs H Q E → vs.length = 1 := len_P
theorem pu_has_any_point_form {K : PySem.W.Frag} : ∀ vs H Q E, sp_has_any_point_form K vs H Q E → t_has_any_point_form K { nx := fun _ H' => Q .non H', rt := Q } (L2.start n_has_any_point_form vs) H := ok_P (N := n_has_any_point_form) (ss_has_any_point_form)
theorem ss_is_point {K : PySem.W.Frag} {E : XK} : SS K (tabs K) E (t_is_point K E) m_is_point :=
  (ss_seq (ss_drop (se_call (sa_cons (se_var 0) sa_nil)))
    (ss_ret (se_callP (sa_cons (se_var 0) (sa_cons (se_var 1) sa_nil)))))
theorem ln_is_point {K : PySem.W.Frag} : ∀ vs H Q E, sp_is_point K vs H Q E → vs.length = 2 := len_M
theorem pu_is_point {K : PySem.W.Frag} : ∀ vs H Q E, sp_is_point K vs H Q E → t_is_point K E { nx := fun _ H' => Q .non H', rt := Q } (L2.start n_is_point vs) H := fun vs H Q E h => ok_M (N := n_is_point) (ss_is_point (E := E)) vs H Q h
theorem ss_speed {K : PySem.W.Frag} (F : EF K) {E : XK} : SS K (tabs K) E (t_speed K E) m_speed :=
  (ss_seq (ss_if (st_or (st_not (st_test (se_is1 .tup (se_var 0)))) (st_or (st_test (se_inI F.s_WIDTHS (se_cb sb_len (sa_cons (se_var 0) sa_nil)))) (st_not (st_test (se_callP (sa_cons (se_cb sb_len (sa_cons (se_var 0) sa_nil)) (sa_cons (se_var 0) sa_nil))))))) (ss_raise (sa_cons (se_c_str "motion") sa_nil)) ss_next)
    (ss_seq (ss_if (st_not (st_test (se_callP (sa_cons (se_ixI F.k_WIDTHS rfl (se_cb sb_len (sa_cons (se_var 0) sa_nil))) (sa_cons (se_var 1) sa_nil))))) (ss_raise (sa_cons (se_c_str "point") sa_nil)) ss_next)
    (ss_ret (se_cb sb_tup (sa_cons (se_lc (vs := [2]) (si_it (se_callP (sa_cons (se_var 1) sa_nil))) (sg_name 2 (by decide)) st_yes (se_callP (sa_cons (se_var 2) (sa_cons (se_var 0) sa_nil)))) sa_nil)))))
theorem ln_speed {K : PySem.W.Frag} : ∀ vs H Q E, sp_speed K vs H Q E → vs.length = 2 := len_M
theorem pu_speed {K : PySem.W.Frag} (F : EF K) : ∀ vs H Q E, sp_speed K vs H Q E → t_speed K E { nx := fun _ H' => Q .non H', rt := Q } (L2.start n_speed vs) H := fun vs H Q E h => ok_M (N := n_speed) (ss_speed F (E := E)) vs H Q h
theorem ss_law_odd {K : PySem.W.Frag} : SS K (tabs K) E0 (t_law_odd K) m_law_odd :=
  (ss_seq (ss_asg (se_cb sb_tup (sa_cons (se_lc (vs := [5]) (si_rng1 (sa_cons (se_var 1) sa_nil)) (sg_name 5 (by decide)) st_yes (se_callP (sa_cons (se_var 0) sa_nil))) sa_nil)) (sg_name1 2))
    (ss_seq (ss_asg (se_callP (sa_cons (se_var 0) (sa_cons (se_var 1) sa_nil))) (sg_name1 3))
    (ss_seq (ss_asg (se_lst (sa_cons (se_var 2) (sa_cons (se_var 2) (sa_cons (se_var 2) (sa_cons (se_cb sb_list (sa_cons (se_var 2) sa_nil)) (sa_cons (se_op s2_add (se_var 2) (se_tup (sa_cons (se_c_int 0) sa_nil))) (sa_cons (se_sl (se_var 2) (so_part (se_c_int 1)) so_none) (sa_cons (se_op s2_add (se_op s2_add (se_sl (se_var 2) so_none (so_part (se_var 3))) (se_tup (sa_cons (se_c_bl true) sa_nil))) (se_sl (se_var 2) (so_part (se_op s2_add (se_var 3) (se_c_int 1))) so_none)) sa_nil)))))))) (sg_name1 4))
    (ss_seq (ss_asg (se_op s2_add (se_var 4) (se_lst (sa_cons (se_op s2_add (se_op s2_add (se_sl (se_var 2) so_none (so_part (se_var 3))) (se_tup (sa_cons (se_cb sb_str (sa_cons (se_op s2_ix (se_var 2) (se_var 3)) sa_nil)) sa_nil))) (se_sl (se_var 2) (so_part (se_op s2_add (se_var 3) (se_c_int 1))) so_none)) (sa_cons (se_op s2_add (se_op s2_add (se_sl (se_var 2) so_none (so_part (se_var 3))) (se_tup (sa_cons se_c_non sa_nil))) (se_sl (se_var 2) (so_part (se_op s2_add (se_var 3) (se_c_int 1))) so_none)) (sa_cons se_c_non (sa_cons (se_op s2_ix (se_var 2) (se_c_int 0)) (sa_cons (se_tup (sa_cons (se_var 2) sa_nil)) (sa_cons (se_c_str "0") sa_nil)))))))) (sg_name1 4))
    (ss_ret (se_callP (sa_cons (se_var 0) (sa_cons (se_var 4) sa_nil))))))))
theorem ln_law_odd {K : PySem.W.Frag} : ∀ vs H Q E, sp_law_odd K vs H Q E → vs.length = 2 := len_P
theorem pu_law_odd {K : PySem.W.Frag} : ∀ vs H Q E, sp_law_odd K vs H Q E → t_law_odd K { nx := fun _ H' => Q .non H', rt := Q } (L2.start n_law_odd vs) H := ok_P (N := n_law_odd) (ss_law_odd)
theorem ss_is_spot {K : PySem.W.Frag} {E : XK} : SS K (tabs K) E (t_is_spot K E) m_is_spot :=
  (ss_seq (ss_drop (se_call (sa_cons (se_var 0) sa_nil)))
    (ss_seq (ss_if (st_or (st_not (st_test (se_is1 .str (se_var 1)))) (st_test (se_op (s2_in true) (se_var 1) (se_callP (sa_cons (se_var 0) sa_nil))))) (ss_raise (sa_cons (se_var 1) sa_nil)) ss_next)
    (ss_ret (se_callP (sa_cons (se_var 0) (sa_cons (se_var 1) (sa_cons (se_var 2) sa_nil)))))))
theorem ln_is_spot {K : PySem.W.Frag} : ∀ vs H Q E, sp_is_spot K vs H Q E → vs.length = 3 := len_M
theorem pu_is_spot {K : PySem.W.Frag} : ∀ vs H Q E, sp_is_spot K vs H Q E → t_is_spot K E { nx := fun _ H' => Q .non H', rt := Q } (L2.start n_is_spot vs) H := fun vs H Q E h => ok_M (N := n_is_spot) (ss_is_spot (E := E)) vs H Q h
theorem ss_line {K : PySem.W.Frag} {E : XK} : SS K (tabs K) E (t_line K E) m_line :=
  (ss_seq (ss_if (st_not (st_test (se_callP (sa_cons (se_var 0) sa_nil)))) (ss_raise (sa_cons (se_c_str "one") sa_nil)) ss_next)
    (ss_seq (ss_if (st_not (st_test (se_callP (sa_cons (se_cb sb_len (sa_cons (se_var 0) sa_nil)) (sa_cons (se_var 1) sa_nil))))) (ss_raise (sa_cons (se_c_str "other") sa_nil)) ss_next)
    (ss_ret (se_callP (sa_cons (se_var 0) (sa_cons (se_var 1) sa_nil))))))
theorem ln_line {K : PySem.W.Frag} : ∀ vs H Q E, sp_line K vs H Q E → vs.length = 2 := len_M
theorem pu_line {K : PySem.W.Frag} : ∀ vs H Q E, sp_line K vs H Q E → t_line K E { nx := fun _ H' => Q .non H', rt := Q } (L2.start n_line vs) H := fun vs H Q E h => ok_M (N := n_line) (ss_line (E := E)) vs H Q h
theorem ss_law_looks_right {K : PySem.W.Frag} : SS K (tabs K) E0 (t_law_looks_right K) m_law_looks_right :=
  (ss_seq (ss_par (sa_cons (se_callP (sa_cons (se_var 0) (sa_cons (se_lst (sa_cons (se_callP (sa_cons (se_var 0) sa_nil)) (sa_cons (se_callP (sa_cons (se_var 0) sa_nil)) (sa_cons (se_c_bl true) (sa_cons se_c_non (sa_cons (se_c_str "1") (sa_cons (se_tup (sa_cons (se_c_int 1) sa_nil)) sa_nil))))))) sa_nil))) (sa_cons (se_callP (sa_cons (se_var 0) (sa_cons (se_var 1) sa_nil))) sa_nil)))
    (ss_seq (ss_if (st_or (st_not (st_test (se_callP (sa_cons (se_callP (sa_cons (se_var 2) sa_nil)) (sa_cons (se_callP (sa_cons (se_var 2) sa_nil)) sa_nil))))) (st_not (st_test (se_callP (sa_cons (se_callP (sa_cons (se_var 3) sa_nil)) (sa_cons (se_callP (sa_cons (se_var 3) sa_nil)) sa_nil)))))) (ss_ret (se_c_bl false)) ss_next)
    (ss_seq (ss_if (st_not (st_test (se_callP (sa_cons (se_callN (sa_cons (se_var 1) (sa_cons (se_var 3) sa_nil))) (sa_cons (se_callP (sa_cons (se_var 1) (sa_cons (se_var 3) sa_nil))) sa_nil))))) (ss_ret (se_c_bl false)) ss_next)
    (ss_seq (ss_for (vs := [4]) (si_it (se_sl (se_lst (sa_cons (se_c_str "rod") (sa_cons (se_c_str "hinge") (sa_cons (se_c_str "weld") sa_nil)))) so_none (so_part (se_op s2_add (se_var 1) (se_c_int 1))))) (sg_name 4 (by decide)) (ss_if (st_or (st_test (se_op (s2_ord _ _) (se_var 1) (se_c_int 1))) (st_test (se_op s2_eq (se_var 4) (se_c_str "rod")))) (ss_seq (ss_asg (se_cb sb_tup (sa_cons (se_lc (vs := [9]) (si_rng1 (sa_cons (se_callP (sa_cons (se_var 0) (sa_cons (se_c_int 4) sa_nil))) sa_nil)) (sg_name 9 (by decide)) st_yes (se_cb sb_tup (sa_cons (se_lc (vs := [10]) (si_rng1 (sa_cons (se_var 1) sa_nil)) (sg_name 10 (by decide)) st_yes (se_op s2_sub (se_callP (sa_cons (se_var 0) (sa_cons (se_c_int 9) sa_nil))) (se_c_int 4))) sa_nil))) sa_nil)) (sg_name1 5))
    (ss_seq (ss_asg (se_op s2_mul (se_sl (se_var 5) so_none (so_part (se_c_int 1))) (se_if (st_test (se_op s2_eq (se_var 4) (se_c_str "rod"))) (se_c_int 2) (se_if (st_test (se_op s2_eq (se_var 4) (se_c_str "hinge"))) (se_op s2_sub (se_var 1) (se_c_int 1)) (se_c_int 0)))) (sg_name1 6))
    (ss_seq (ss_asg (se_lst (sa_cons (se_var 5) (sa_cons (se_var 6) (sa_cons (se_op s2_add (se_sl (se_var 6) (so_part (se_c_int 1)) so_none) (se_tup (sa_cons (se_var 3) sa_nil))) (sa_cons (se_op s2_add (se_tup (sa_cons (se_var 3) sa_nil)) (se_sl (se_var 6) (so_part (se_c_int 1)) so_none)) (sa_cons (se_cb sb_list (sa_cons (se_var 6) sa_nil)) (sa_cons (se_op s2_add (se_var 6) (se_sl (se_var 5) so_none (so_part (se_c_int 1)))) (sa_cons se_c_non (sa_cons se_dnew (sa_cons (se_var 4) sa_nil)))))))))) (sg_name1 7))
    (ss_for (vs := [8]) (si_it (se_var 7)) (sg_name 8 (by decide)) (ss_if (st_not (st_test (se_callP (sa_cons (se_callN (sa_cons (se_var 1) (sa_cons (se_var 4) (sa_cons (se_var 8) sa_nil)))) (sa_cons (se_callP (sa_cons (se_var 1) (sa_cons (se_var 4) (sa_cons (se_var 8) sa_nil)))) sa_nil))))) (ss_ret (se_c_bl false)) ss_next))))) ss_next))
    (ss_ret (se_and (se_op (s2_is false) (se_callKN (sa_cons (se_tup sa_nil) (sa_cons (se_c_str "weld") (sa_cons (se_var 1) sa_nil)))) (se_c_bl true)) (se_op (s2_is false) (se_callKN (sa_cons (se_op s2_mul (se_tup (sa_cons (se_c_int 0) sa_nil)) (se_var 1)) (sa_cons (se_var 1) sa_nil))) (se_c_bl true))))))))
theorem ln_law_looks_right {K : PySem.W.Frag} : ∀ vs H Q E, sp_law_looks_right K vs H Q E → vs.length = 2 := len_P
theorem pu_law_looks_right {K : PySem.W.Frag} : ∀ vs H Q E, sp_law_looks_right K vs H Q E → t_law_looks_right K { nx := fun _ H' => Q .non H', rt := Q } (L2.start n_law_looks_right vs) H := ok_P (N := n_law_looks_right) (ss_law_looks_right)
theorem ss_law_numbers_right {K : PySem.W.Frag} : SS K (tabs K) E0 (t_law_numbers_right K) m_law_numbers_right :=
  (ss_seq (ss_asg (se_callP (sa_cons (se_var 0) (sa_cons (se_lst (sa_cons (se_c_int 3) (sa_cons (se_op s2_pow (se_c_int 10) (se_c_int 6)) (sa_cons (se_c_int 0) sa_nil)))) sa_nil))) (sg_name1 2))
    (ss_seq (ss_asg (se_cb sb_tup (sa_cons (se_lc (vs := [12]) (si_rng1 (sa_cons (se_var 1) sa_nil)) (sg_name 12 (by decide)) st_yes (se_if (st_test (se_op (s2_ord _ _) (se_var 2) (se_c_int 0))) (se_op s2_sub (se_callP (sa_cons (se_var 0) (sa_cons (se_op s2_add (se_op s2_mul (se_c_int 2) (se_var 2)) (se_c_int 1)) sa_nil))) (se_var 2)) (se_callP (sa_cons (se_var 0) sa_nil)))) sa_nil)) (sg_name1 3))
    (ss_seq (ss_asg (se_cb sb_tup (sa_cons (se_lc (vs := [12]) (si_rng1 (sa_cons (se_var 1) sa_nil)) (sg_name 12 (by decide)) st_yes (se_if (st_test (se_op (s2_ord _ _) (se_var 2) (se_c_int 0))) (se_op s2_sub (se_callP (sa_cons (se_var 0) (sa_cons (se_op s2_add (se_op s2_mul (se_c_int 2) (se_var 2)) (se_c_int 1)) sa_nil))) (se_var 2)) (se_callP (sa_cons (se_var 0) sa_nil)))) sa_nil)) (sg_name1 4))
    (ss_seq (ss_asg (vs := [5, 6]) (se_tup (sa_cons (se_op s2_div (se_op s2_mul (se_var 1) (se_op s2_add (se_var 1) (se_c_int 1))) (se_c_int 2)) (sa_cons (se_lc (vs := [12]) (si_rng1 (sa_cons (se_var 1) sa_nil)) (sg_name 12 (by decide)) st_yes (se_op s2_sub (se_op s2_ix (se_var 4) (se_var 12)) (se_op s2_ix (se_var 3) (se_var 12)))) sa_nil))) (sg_tup (sgs_cons (sg_name 5 (by decide)) (sgs_cons (sg_name 6 (by decide)) sgs_nil))))
    (ss_seq (ss_asg (se_lc (vs := [13]) (si_it (se_callP (sa_cons (se_var 5) sa_nil))) (sg_name 13 (by decide)) st_yes (se_cb sb_sum (sa_cons (se_lc (vs := [12]) (si_rng1 (sa_cons (se_var 1) sa_nil)) (sg_name 12 (by decide)) st_yes (se_op s2_mul (se_op s2_ix (se_var 6) (se_var 12)) (se_op s2_ix (se_callP (sa_cons (se_var 13) (sa_cons (se_var 3) sa_nil))) (se_var 12)))) sa_nil))) (sg_name1 7))
    (ss_seq (ss_if (st_or (st_not (st_test (se_callP (sa_cons (se_callN (sa_cons (se_var 3) (sa_cons (se_var 4) sa_nil))) (sa_cons (se_var 7) sa_nil))))) (st_not (st_test (se_callP (sa_cons (se_callKN (sa_cons (se_var 3) (sa_cons (se_var 4) sa_nil))) (sa_cons (se_lc (vs := [14]) (si_it (se_var 7)) (sg_name 14 (by decide)) st_yes (se_op s2_sub (se_c_int 0) (se_var 14))) sa_nil)))))) (ss_ret (se_c_bl false)) ss_next)
    (ss_seq (ss_asg (se_cb sb_tup (sa_cons (se_lc (vs := [12]) (si_rng1 (sa_cons (se_var 5) sa_nil)) (sg_name 12 (by decide)) st_yes (se_callP (sa_cons (se_var 0) sa_nil))) sa_nil)) (sg_name1 8))
    (ss_seq (ss_asg (se_callN (sa_cons (se_var 8) (sa_cons (se_var 3) sa_nil))) (sg_name1 9))
    (ss_seq (ss_if (st_or (st_not (st_test (se_callP (sa_cons (se_var 9) (sa_cons (se_callP (sa_cons (se_var 8) (sa_cons (se_var 3) sa_nil))) sa_nil))))) (st_test (se_op s2_ne (se_callKN (sa_cons (se_var 3) (sa_cons (se_var 8) sa_nil))) (se_var 9)))) (ss_ret (se_c_bl false)) ss_next)
    (ss_seq (ss_asg (vs := [10, 11]) (se_tup (sa_cons (se_callN (sa_cons (se_var 8) (sa_cons (se_var 3) sa_nil))) (sa_cons (se_callN (sa_cons (se_var 8) (sa_cons (se_var 4) sa_nil))) sa_nil))) (sg_tup (sgs_cons (sg_name 10 (by decide)) (sgs_cons (sg_name 11 (by decide)) sgs_nil))))
    (ss_ret (se_op s2_eq (se_cb sb_sum (sa_cons (se_lc (vs := [12]) (si_rng1 (sa_cons (se_var 1) sa_nil)) (sg_name 12 (by decide)) st_yes (se_op s2_mul (se_op s2_ix (se_var 6) (se_var 12)) (se_op s2_sub (se_op s2_ix (se_var 11) (se_var 12)) (se_op s2_ix (se_var 10) (se_var 12))))) sa_nil)) (se_c_int 0)))))))))))))
theorem ln_law_numbers_right {K : PySem.W.Frag} : ∀ vs H Q E, sp_law_numbers_right K vs H Q E → vs.length = 2 := len_P
theorem pu_law_numbers_right {K : PySem.W.Frag} : ∀ vs H Q E, sp_law_numbers_right K vs H Q E → t_law_numbers_right K { nx := fun _ H' => Q .non H', rt := Q } (L2.start n_law_numbers_right vs) H := ok_P (N := n_law_numbers_right) (ss_law_numbers_right)
theorem ss_law_refused {K : PySem.W.Frag} : SS K (tabs K) E0 (t_law_refused K) m_law_refused :=
  (ss_seq (ss_asg (vs := [2, 3]) (se_tup (sa_cons (se_op s2_div (se_op s2_mul (se_var 1) (se_op s2_add (se_var 1) (se_c_int 1))) (se_c_int 2)) (sa_cons (se_cb sb_tup (sa_cons (se_lc (vs := [11]) (si_rng1 (sa_cons (se_var 1) sa_nil)) (sg_name 11 (by decide)) st_yes (se_op s2_sub (se_callP (sa_cons (se_var 0) (sa_cons (se_c_int 9) sa_nil))) (se_c_int 4))) sa_nil)) sa_nil))) (sg_tup (sgs_cons (sg_name 2 (by decide)) (sgs_cons (sg_name 3 (by decide)) sgs_nil))))
    (ss_seq (ss_asg (se_callP (sa_cons (se_var 0) (sa_cons (se_lst (sa_cons se_c_non (sa_cons (se_c_int 7) (sa_cons (se_cb sb_list (sa_cons (se_var 3) sa_nil)) (sa_cons (se_op s2_mul (se_var 3) (se_c_int 4)) (sa_cons (se_tup sa_nil) (sa_cons (se_op s2_add (se_tup (sa_cons (se_c_bl true) sa_nil)) (se_sl (se_var 3) (so_part (se_c_int 1)) so_none)) (sa_cons (se_op s2_add (se_tup (sa_cons (se_c_str "0") sa_nil)) (se_sl (se_var 3) (so_part (se_c_int 1)) so_none)) (sa_cons (se_op s2_add (se_sl (se_var 3) so_none (so_part (se_neg (se_c_int 1)))) (se_tup (sa_cons (se_op s2_pow (se_c_int 10) (se_c_int 12)) sa_nil))) (sa_cons se_dnew sa_nil)))))))))) sa_nil))) (sg_name1 4))
    (ss_seq (ss_asg (se_callP (sa_cons (se_var 0) (sa_cons (se_lst (sa_cons (se_op s2_add (se_var 3) (se_tup (sa_cons (se_c_int 1) sa_nil))) (sa_cons (se_sl (se_var 3) (so_part (se_c_int 1)) so_none) (sa_cons (se_cb sb_list (sa_cons (se_var 3) sa_nil)) (sa_cons se_c_non (sa_cons (se_op s2_add (se_sl (se_var 3) so_none (so_part (se_neg (se_c_int 1)))) (se_tup (sa_cons (se_op s2_sub (se_c_int 0) (se_op s2_pow (se_c_int 10) (se_c_int 12))) sa_nil))) (sa_cons (se_op s2_add (se_sl (se_var 3) so_none (so_part (se_neg (se_c_int 1)))) (se_tup (sa_cons (se_c_bl false) sa_nil))) sa_nil))))))) sa_nil))) (sg_name1 5))
    (ss_seq (ss_asg (se_cb sb_tup (sa_cons (se_lc (vs := [11]) (si_rng1 (sa_cons (se_var 2) sa_nil)) (sg_name 11 (by decide)) st_yes (se_callP (sa_cons (se_var 0) sa_nil))) sa_nil)) (sg_name1 6))
    (ss_seq (ss_asg (se_callP (sa_cons (se_var 0) (sa_cons (se_lst (sa_cons se_c_non (sa_cons (se_c_int 3) (sa_cons (se_cb sb_list (sa_cons (se_var 6) sa_nil)) (sa_cons (se_op s2_add (se_var 6) (se_tup (sa_cons (se_c_int 0) sa_nil))) (sa_cons (se_op s2_add (se_sl (se_var 6) so_none (so_part (se_neg (se_c_int 1)))) (se_tup (sa_cons (se_c_bl true) sa_nil))) (sa_cons (se_op s2_mul (se_tup (sa_cons (se_c_int 0) sa_nil)) (se_c_int 4)) (sa_cons (se_op s2_mul (se_tup (sa_cons (se_c_int 0) sa_nil)) (se_c_int 2)) (sa_cons (se_tup sa_nil) (sa_cons (se_op s2_add (se_sl (se_var 6) so_none (so_part (se_neg (se_c_int 1)))) (se_tup (sa_cons (se_c_str "1") sa_nil))) sa_nil)))))))))) sa_nil))) (sg_name1 7))
    (ss_seq (ss_asg (se_lst (sa_cons (se_lam fun _ => (se_call (sa_cons (se_var 4) (sa_cons (se_var 5) sa_nil)))) (sa_cons (se_lam fun _ => (se_call (sa_cons (se_var 4) (sa_cons (se_var 3) sa_nil)))) (sa_cons (se_lam fun _ => (se_call (sa_cons (se_var 3) (sa_cons (se_var 5) sa_nil)))) sa_nil)))) (sg_name1 8))
    (ss_seq (ss_if (st_test (se_op s2_ne (se_var 8) (se_op s2_add (se_op s2_mul (se_lst (sa_cons (se_tup (sa_cons (se_c_str "BadNumber") (sa_cons (se_c_str "one") sa_nil))) sa_nil)) (se_c_int 2)) (se_lst (sa_cons (se_tup (sa_cons (se_c_str "BadNumber") (sa_cons (se_c_str "other") sa_nil))) sa_nil))))) (ss_ret (se_c_bl false)) ss_next)
    (ss_seq (ss_asg (se_lst (sa_cons (se_lam fun _ => (se_call (sa_cons (se_var 7) (sa_cons (se_var 5) sa_nil)))) (sa_cons (se_lam fun _ => (se_call (sa_cons (se_var 7) (sa_cons (se_var 3) sa_nil)))) (sa_cons (se_lam fun _ => (se_call (sa_cons (se_var 6) (sa_cons (se_var 5) sa_nil)))) sa_nil)))) (sg_name1 8))
    (ss_seq (ss_if (st_test (se_op s2_ne (se_var 8) (se_op s2_add (se_op s2_mul (se_lst (sa_cons (se_tup (sa_cons (se_c_str "BadNumber") (sa_cons (se_c_str "motion") sa_nil))) sa_nil)) (se_c_int 2)) (se_lst (sa_cons (se_tup (sa_cons (se_c_str "BadNumber") (sa_cons (se_c_str "point") sa_nil))) sa_nil))))) (ss_ret (se_c_bl false)) ss_next)
    (ss_seq (ss_asg (vs := [9, 10]) (se_tup (sa_cons (se_callP (sa_cons (se_var 0) (sa_cons (se_lst (sa_cons (se_c_int 0) (sa_cons (se_c_int 4) (sa_cons (se_neg (se_c_int 1)) (sa_cons (se_c_bl true) (sa_cons se_c_non (sa_cons (se_c_str "2") (sa_cons (se_tup (sa_cons (se_c_int 2) sa_nil)) (sa_cons (se_op s2_pow (se_c_int 10) (se_c_int 30)) sa_nil))))))))) sa_nil))) (sa_cons (se_callP (sa_cons (se_var 0) (sa_cons (se_lst (sa_cons (se_c_str "Rod") (sa_cons (se_c_str "") (sa_cons se_c_non (sa_cons (se_c_int 5) (sa_cons (se_c_str "rods") (sa_cons (se_tup (sa_cons (se_c_str "rod") sa_nil)) (sa_cons (se_c_str "hinge.") sa_nil)))))))) sa_nil))) sa_nil))) (sg_tup (sgs_cons (sg_name 9 (by decide)) (sgs_cons (sg_name 10 (by decide)) sgs_nil))))
    (ss_seq (ss_asg (se_lst (sa_cons (se_lam fun _ => (se_call (sa_cons (se_var 9) (sa_cons (se_var 3) sa_nil)))) (sa_cons (se_lam fun _ => (se_call (sa_cons (se_var 9) (sa_cons (se_var 10) (sa_cons (se_tup sa_nil) sa_nil))))) (sa_cons (se_lam fun _ => (se_call (sa_cons (se_var 1) (sa_cons (se_var 10) (sa_cons (se_tup sa_nil) sa_nil))))) sa_nil)))) (sg_name1 8))
    (ss_seq (ss_if (st_test (se_op s2_ne (se_var 8) (se_lst (sa_cons (se_tup (sa_cons (se_c_str "BadDimension") (sa_cons (se_var 9) sa_nil))) (sa_cons (se_tup (sa_cons (se_c_str "BadDimension") (sa_cons (se_var 9) sa_nil))) (sa_cons (se_tup (sa_cons (se_c_str "BadName") (sa_cons (se_var 10) sa_nil))) sa_nil)))))) (ss_ret (se_c_bl false)) ss_next)
    (ss_seq (ss_if (st_not (st_test (se_op s2_eq (se_lam fun _ => (se_call (sa_cons (se_c_int 1) (sa_cons (se_c_str "hinge") (sa_cons (se_tup sa_nil) sa_nil))))) (se_tup (sa_cons (se_c_str "BadName") (sa_cons (se_c_str "hinge") sa_nil)))))) (ss_ret (se_c_bl false)) ss_next)
    (ss_ret (se_op (s2_is false) (se_lam fun _ => (se_call (sa_cons (se_c_int 2) (sa_cons (se_c_str "hinge") (sa_cons (se_tup sa_nil) sa_nil))))) se_c_non)))))))))))))))
theorem ln_law_refused {K : PySem.W.Frag} : ∀ vs H Q E, sp_law_refused K vs H Q E → vs.length = 2 := len_P
theorem pu_law_refused {K : PySem.W.Frag} : ∀ vs H Q E, sp_law_refused K vs H Q E → t_law_refused K { nx := fun _ H' => Q .non H', rt := Q } (L2.start n_law_refused vs) H := ok_P (N := n_law_refused) (ss_law_refused)
def tr_law (K : PySem.W.Frag) : TS := (tSeq (tFor (iRng1 (tCons (tC (.int 4)) tNil)) (gName 2) (tFor (iU K (tTup (tCons (tC (.int 1)) (tCons (tC (.int 2)) (tCons (tC (.int 3)) tNil))))) (gName 3) (tIfS (tOr (tNot (mTest (tCall (sp_law_looks_right K) [] E0 (tCons (mVar 1) (tCons (mVar 3) tNil))))) (tOr (tNot (mTest (tCall (sp_law_numbers_right K) [] E0 (tCons (mVar 1) (tCons (mVar 3) tNil))))) (tNot (mTest (tCall (sp_law_refused K) [] E0 (tCons (mVar 1) (tCons (mVar 3) tNil))))))) (tRet (tC (.bl false))) tNext)))
    (tSeq (tAsg (tLst (tCons (tCall (sp_coordinate K) [] E0 (tCons (tC (.int 999999999999)) tNil)) (tCons (tCall (sp_coordinate K) [] E0 (tCons (tUn oNeg (tC (.int 999999999999))) tNil)) (tCons (tCall (sp_coordinate K) [] E0 (tCons (tOp oPow (tC (.int 10)) (tC (.int 12))) tNil)) (tCons (tCall (sp_coordinate K) [] E0 (tCons (tOp oSub (tC (.int 0)) (tOp oPow (tC (.int 10)) (tC (.int 12)))) tNil)) tNil))))) (gName 4))
    (tRet (tOp (oEq K) (mVar 4) (tLst (tCons (tC (.bl true)) (tCons (tC (.bl true)) (tCons (tC (.bl false)) (tCons (tC (.bl false)) tNil)))))))))
theorem ss_law {K : PySem.W.Frag} : SS K (tabs K) E0 (tr_law K) mr_law :=
  (ss_seq (ss_for (vs := [2]) (si_rng1 (sa_cons (se_c_int 4) sa_nil)) (sg_name 2 (by decide)) (ss_for (vs := [3]) (si_it (se_tup (sa_cons (se_c_int 1) (sa_cons (se_c_int 2) (sa_cons (se_c_int 3) sa_nil))))) (sg_name 3 (by decide)) (ss_if (st_or (st_not (st_test (se_callP (sa_cons (se_var 1) (sa_cons (se_var 3) sa_nil))))) (st_or (st_not (st_test (se_callP (sa_cons (se_var 1) (sa_cons (se_var 3) sa_nil))))) (st_not (st_test (se_callP (sa_cons (se_var 1) (sa_cons (se_var 3) sa_nil))))))) (ss_ret (se_c_bl false)) ss_next)))
    (ss_seq (ss_asg (se_lst (sa_cons (se_callP (sa_cons (se_c_int 999999999999) sa_nil)) (sa_cons (se_callP (sa_cons (se_neg (se_c_int 999999999999)) sa_nil)) (sa_cons (se_callP (sa_cons (se_op s2_pow (se_c_int 10) (se_c_int 12)) sa_nil)) (sa_cons (se_callP (sa_cons (se_op s2_sub (se_c_int 0) (se_op s2_pow (se_c_int 10) (se_c_int 12))) sa_nil)) sa_nil))))) (sg_name1 4))
    (ss_ret (se_op s2_eq (se_var 4) (se_lst (sa_cons (se_c_bl true) (sa_cons (se_c_bl true) (sa_cons (se_c_bl false) (sa_cons (se_c_bl false) sa_nil)))))))))
theorem ln_law {K : PySem.W.Frag} : ∀ vs H Q E, sp_law K vs H Q E → vs.length = 1 := by rintro vs H Q E ⟨_, _, rfl, _⟩; rfl
theorem pu_law {K : PySem.W.Frag} (F : EF K) (ok : LawOk) : ∀ vs H Q E, sp_law K vs H Q E → t_law K { nx := fun _ H' => Q .non H', rt := Q } (L2.start n_law vs) H := by
  rintro vs H Q E ⟨a, ns, rfl, hs, hl, T, q⟩
  show sp_law_pen K ([.ref a] ++ []) H (fun x H1 => tr_law K { nx := fun _ H' => Q .non H', rt := Q } (List.set (L2.start n_law [.ref a]) 1 (some x)) H1) E0
  refine ⟨a, ns, rfl, hs, hl, fun p c H1 np nc s1 hp hc => ?_⟩
  exact pen_rest (ss_law ) (T.ext s1) hp hc (.cons (fun d e => by cases e) (.cons (fun d e => by cases e; exact ⟨_, rfl, .pen rfl⟩) (.cons (fun d e => by cases e) (.cons (fun d e => by cases e) (.cons (fun d e => by cases e) .nil))))) (ok _ (by rw [List.length_take]; omega)) q
theorem law_in {K : PySem.W.Frag} {H : Hp} {a : Addr} {ns : List Int} {E : XK} (hl : ns.length ≤ 63) (hb : ∀ z ∈ ns, Builtin.Int.intBits z ≤ 1048576) (hT : ∀ p ∈ tf, H (He.cT K p).2 = some (.tbl #[])) (hS : SqL K H a (ns.map V.int)) : sp_law K [.ref a] H (fun v _ => v = .bl true) E := by
  refine ⟨a, ns, rfl, hS, hl, fun p hp => ?_, fun _ => rfl⟩
  rcases List.mem_cons.mp hp with rfl | hp
  · exact LamX.TabS.nil (hT _ (List.mem_of_getElem? (i := 0) rfl))
  cases hp

end
end GW
namespace GW
section
open PySem L2
local macro_rules | `(tactic| walk_at "side") => `(tactic| first | with_reducible rfl | with_reducible assumption | omega | rfl | exact ⟨_, rfl⟩ | exact Nat.le_of_ble_eq_true rfl | decide | (unfold CDiv; omega) | (unfold CMul; omega) | (unfold CPow; omega))
/-- the goal's head form, what stands beside closed -/
local macro_rules | `(tactic| walk_at "s") => `(tactic| ((conv => whnf); repeat (refine And.intro (by walk_at "side") ?_; (conv => whnf))))
local macro_rules | `(tactic| walk_at "if") => `(tactic| first | refine brD ?_ ?_ | refine brN ?_ ?_ | refine brd ?_ ?_)
/-- an item at a written place of a list that stands -/
local macro_rules | `(tactic| walk_at "ix") => `(tactic| (refine Or.inl ⟨_, _, _, rfl, Or.inl (SqL.of ‹_›), rfl, ?_⟩; walk_at "s"))
/-- a new object: its heap, its content, what stood -/
local macro_rules | `(tactic| walk_at "new") => `(tactic| first | refine heapN (by assumption) ?_ | refine heapN2 (by assumption) ?_)
local macro_rules | `(tactic| walk_at "put") => `(tactic| first | refine heapS ?_ | refine heapS2 ?_)
/-- a new tuple taken apart into two, three names -/
local macro_rules | `(tactic| walk_at "tup2") => `(tactic| (refine ⟨_, _, rfl, SqT.of ‹_›, rfl, _, _, rfl, ?_⟩; (conv => whnf); refine ⟨_, _, rfl, ?_⟩; walk_at "s"))
local macro_rules | `(tactic| walk_at "tup3") => `(tactic| (refine ⟨_, _, rfl, SqT.of ‹_›, rfl, _, _, rfl, ?_⟩; (conv => whnf); refine ⟨_, _, rfl, ?_⟩; (conv => whnf); refine ⟨_, _, rfl, ?_⟩; walk_at "s"))
local macro_rules | `(tactic| walk_at "tup4") => `(tactic| (refine ⟨_, _, rfl, SqT.of ‹_›, rfl, _, _, rfl, ?_⟩; (conv => whnf); refine ⟨_, _, rfl, ?_⟩; (conv => whnf); refine ⟨_, _, rfl, ?_⟩; (conv => whnf); refine ⟨_, _, rfl, ?_⟩; walk_at "s"))
local macro_rules | `(tactic| walk_at "ev") => `(tactic| try simp only [ap_bind, ap_ok, ap_chk, ap_noEr, ap_seq, ap_ret, ap_drop, ap_ifS, ap_asg, ap_name, ap_gtup, ap_gcons, ap_gnil, ap_var, ap_op, ap_cons, ap_call, ap_callP, ap_par, ap_par3, ap_set, ap_set1, ap_set2, ap_pen0, ap_pen1, ap_pen2, ap_one, ap_test, ap_asB, ap_asI, ap_and, ap_or, ap_not, ap_tand, ap_tor, ap_tnot, ap_tru, ap_if, ap_chain, ap_tup, ap_lst, ap_un, ap_is1, ap_it, ap_sl, ap_part, ap_perm, ap_raise, ap_lam, ap_def, ap_body, ap_orS, ap_for, ap_eqi, ap_nei, ap_eqs, ap_nes, ap_isb,
  startD, outD, wipeD, kdD, isB, dAdd, dSub, dOrd, dNeg, intD, absD, boolD, lenD, listD, tupleD, itemsD, truD, slD, permD,
  List.map_cons, List.map_nil, List.length_cons, List.length_nil, List.replicate_succ, List.replicate_zero, List.cons_append, List.nil_append, List.append_nil, List.getD_cons_zero, List.getD_cons_succ, List.getElem?_cons_zero, List.getElem?_cons_succ, List.getElem?_nil, List.set_cons_zero, List.set_cons_succ, List.reverse_cons, List.reverse_nil, Nat.reduceAdd, Nat.reduceSub, Nat.reduceEqDiff, Nat.reduceLeDiff, decide_true, decide_false, Bool.and_true, Bool.true_and, Bool.and_false, Bool.false_and, Bool.or_true, Bool.or_false, Bool.not_true, Bool.not_false])

local macro_rules | `(tactic| walk_at "evd") => `(tactic| try simp (disch := omega) only [ap_bind, ap_ok, ap_chk, ap_noEr, ap_seq, ap_ret, ap_drop, ap_ifS, ap_asg, ap_name, ap_gtup, ap_gcons, ap_gnil, ap_var, ap_op, ap_cons, ap_call, ap_callP, ap_par, ap_par3, ap_set, ap_set1, ap_set2, ap_pen0, ap_pen1, ap_pen2, ap_one, ap_test, ap_asB, ap_asI, ap_and, ap_or, ap_not, ap_tand, ap_tor, ap_tnot, ap_tru, ap_if, ap_chain, ap_tup, ap_lst, ap_un, ap_is1, ap_it, ap_sl, ap_part, ap_perm, ap_raise, ap_lam, ap_def, ap_body, ap_orS, ap_for, ap_eqi, ap_nei, ap_eqs, ap_nes, ap_isb,
  startD, outD, wipeD, kdD, isB, dAdd, dSub, dOrd, dNeg, intD, absD, boolD, lenD, listD, tupleD, itemsD, truD, slD, permD,
  List.map_cons, List.map_nil, List.length_cons, List.length_nil, List.replicate_succ, List.replicate_zero, List.cons_append, List.nil_append, List.append_nil, List.getD_cons_zero, List.getD_cons_succ, List.getElem?_cons_zero, List.getElem?_cons_succ, List.getElem?_nil, List.set_cons_zero, List.set_cons_succ, List.reverse_cons, List.reverse_nil, Nat.reduceAdd, Nat.reduceSub, Nat.reduceEqDiff, Nat.reduceLeDiff, decide_true, decide_false, Bool.and_true, Bool.true_and, Bool.and_false, Bool.false_and, Bool.or_true, Bool.or_false, Bool.not_true, Bool.not_false, ap_chkL, List.length_append, List.length_map])

local macro_rules | `(tactic| walk_at "evm") => `(tactic| try simp (disch := first | omega | (refine mulL (And.intro ?_ ?_) <;> omega) | (refine mulR (And.intro ?_ ?_) <;> omega)) only [ap_bind, ap_ok, ap_chk, ap_noEr, ap_seq, ap_ret, ap_drop, ap_ifS, ap_asg, ap_name, ap_gtup, ap_gcons, ap_gnil, ap_var, ap_op, ap_cons, ap_call, ap_callP, ap_par, ap_par3, ap_set, ap_set1, ap_set2, ap_pen0, ap_pen1, ap_pen2, ap_one, ap_test, ap_asB, ap_asI, ap_and, ap_or, ap_not, ap_tand, ap_tor, ap_tnot, ap_tru, ap_if, ap_chain, ap_tup, ap_lst, ap_un, ap_is1, ap_it, ap_sl, ap_part, ap_perm, ap_raise, ap_lam, ap_def, ap_body, ap_orS, ap_for, ap_eqi, ap_nei, ap_eqs, ap_nes, ap_isb,
  startD, outD, wipeD, kdD, isB, dAdd, dSub, dOrd, dNeg, intD, absD, boolD, lenD, listD, tupleD, itemsD, truD, slD, permD,
  List.map_cons, List.map_nil, List.length_cons, List.length_nil, List.replicate_succ, List.replicate_zero, List.cons_append, List.nil_append, List.append_nil, List.getD_cons_zero, List.getD_cons_succ, List.getElem?_cons_zero, List.getElem?_cons_succ, List.getElem?_nil, List.set_cons_zero, List.set_cons_succ, List.reverse_cons, List.reverse_nil, Nat.reduceAdd, Nat.reduceSub, Nat.reduceEqDiff, Nat.reduceLeDiff, decide_true, decide_false, Bool.and_true, Bool.true_and, Bool.and_false, Bool.false_and, Bool.or_true, Bool.or_false, Bool.not_true, Bool.not_false, ap_chkL, ap_mul, List.length_append, List.length_map, ap_rng, rng_1, rng_2, rng_3, rng_6, ap_lc0, ap_go0, ap_go1, ixt0, ixt1, ixt2, ixt3, ixt4, ixt5, ixl0, ixl1, ixl2, ixl3, ixl4, ixl5, ap_zip2, ap_enum, enum1, enum2, enum3, zip1, zip2, zip3, zip6, sum1, sum2, sum3, sum6, nc0, nc1, nc2, nc3, nc6, Int.reduceEq, Int.reduceLT, Int.reduceLE, Int.reduceAdd, Int.reduceMul, Int.reduceDiv, Int.reduceSub, Int.reduceNeg, eq_self, ap_div, ap_inI, ap_ixI, kgI, reduceIte, Option.isSome_some, Option.isSome_none, ng, ofPy])

local macro_rules | `(tactic| walk_at "poly") => `(tactic| (simp only [R.ok.injEq, D.tup.injEq, D.lst.injEq, List.cons.injEq, D.int.injEq, and_true, true_and, Int.sub_mul, Int.mul_sub, Int.mul_add, Int.add_mul, Int.mul_neg, Int.neg_mul, Int.mul_one, Int.one_mul, Int.mul_zero, Int.zero_mul, Int.add_zero, Int.zero_add, Int.sub_zero, Int.zero_sub, Int.neg_neg, Int.mul_comm, Int.mul_left_comm, Int.mul_assoc]; try omega))
def intB : D → Bool
  | .int _ => true
  | _ => false
theorem e_is_integer {d : D} {s : PenS} (hd : kdD d ≠ none) : f_is_integer [d] s = .ok (.bl (intB d)) s := by
  cases d <;> first
    | rfl
    | exact absurd rfl hd
def wiD (lo hi : Int) : D → Bool
  | .int i => decide (lo ≤ i) && decide (i ≤ hi)
  | _ => false
theorem e_is_within {d : D} {s : PenS} {lo hi : Int} (hd : kdD d ≠ none) : f_is_within [d, .int lo, .int hi] s = .ok (.bl (wiD lo hi d)) s := by
  unfold f_is_within m_is_within
  walk_at "ev"
  rw [e_is_integer hd]
  cases d <;> first
    | exact absurd rfl hd
    | rfl
    | skip
  rename_i i
  have ei : intB (.int i) = true := rfl
  rw [ei]
  walk_at "ev"
  show _ = R.ok (D.bl (decide (lo ≤ i) && decide (i ≤ hi))) s
  cases decide (lo ≤ i) <;> rfl
abbrev MC : Int := 999999999999
abbrev coB : D → Bool := wiD (-MC) MC
theorem e_coordinate {d : D} {s : PenS} (hd : kdD d ≠ none) : f_coordinate [d] s = .ok (.bl (coB d)) s := by
  unfold f_coordinate m_coordinate
  walk_at "ev"
  rw [e_is_within hd]
def ptB (n : Nat) : D → Bool
  | .tup ds => decide (ds.length = n) && ds.all coB
  | _ => false
/-- a value that is no pen, its items none, no long one -/
def vf : Nat → D → Prop
  | 0, d => match d with
    | .pen => False
    | .lst ds => ds = []
    | .tup ds => ds = []
    | .dct ks _ => ks = []
    | _ => True
  | n + 1, d => match d with
    | .pen => False
    | .lst ds => ds.length ≤ 1000 ∧ ∀ x ∈ ds, vf n x
    | .tup ds => ds.length ≤ 1000 ∧ ∀ x ∈ ds, vf n x
    | _ => True
theorem vf_kd {n : Nat} {d : D} (h : vf n d) : kdD d ≠ none := by
  cases d with
  | pen => cases n <;> exact h.elim
  | _ => exact fun z => by cases z
theorem le1000 {n : Nat} (h : n ≤ 1000) : n ≤ sizeLine := line1000 h
theorem e_has_point_form {n m : Nat} {d : D} {s : PenS} (hd : vf (m + 1) d) : f_has_point_form [.int n, d] s = .ok (.bl (ptB n d)) s := by
  unfold f_has_point_form m_has_point_form
  walk_at "ev"
  cases d <;> first
    | rfl
    | exact hd.elim
    | skip
  rename_i ds
  walk_at "ev"
  have e : (ptB n (.tup ds)) = (decide (ds.length = n) && ds.all coB) := rfl
  rw [e]
  by_cases h : ds.length = n
  · simp only [h, decide_true, Bool.not_true]
    walk_at "ev"
    rw [ap_lc (ds := ds) (fun d => .bl (coB d)) (by walk_at "ev") (le1000 hd.1) (fun x hx => by walk_at "ev"; rw [e_coordinate (vf_kd (hd.2 x hx))])]
    walk_at "ev"
    rw [ap_all]
  · have h2 : ¬ ((ds.length : Int) = n) := by omega
    simp only [h, h2, decide_false, Bool.not_false]
    walk_at "ev"
theorem e_law_is_coordinate {d : D} {s : PenS} (hd : kdD d ≠ none) : f_law_is_coordinate [d] s = .ok (.bl (coB d)) s := by
  unfold f_law_is_coordinate m_law_is_coordinate
  cases d <;> first
    | exact absurd rfl hd
    | rfl
    | skip
  rename_i i
  walk_at "ev"
  have e : dPow (.int 10) (.int 12) s = .ok (.int 1000000000000) s := by kernel_rfl
  rw [e]
  walk_at "ev"
  have e2 : coB (.int i) = (decide (-MC ≤ i) && decide (i ≤ MC)) := rfl
  rw [e2]
  have e3 : decide ((if i < 0 then -i else i) < 1000000000000) = (decide (-MC ≤ i) && decide (i ≤ MC)) := by
    rw [← Bool.decide_and]
    apply decide_eq_decide.mpr
    have m : MC = 999999999999 := rfl
    rw [m]
    split <;> omega
  rw [e3]
theorem e_law_is_point {n m : Nat} {d : D} {s : PenS} (hd : vf (m + 1) d) : f_law_is_point [.int n, d] s = .ok (.bl (ptB n d)) s := by
  unfold f_law_is_point m_law_is_point
  walk_at "ev"
  cases d <;> first
    | rfl
    | exact hd.elim
    | skip
  rename_i ds
  walk_at "ev"
  have e : (ptB n (.tup ds)) = (decide (ds.length = n) && ds.all coB) := rfl
  rw [e]
  by_cases h : ds.length = n
  · simp only [h, decide_true]
    walk_at "ev"
    rw [ap_lc (ds := ds) (fun d => .bl (coB d)) (by walk_at "ev") (le1000 hd.1) (fun x hx => by walk_at "ev"; rw [e_law_is_coordinate (vf_kd (hd.2 x hx))])]
    walk_at "ev"
    rw [ap_all]
  · have h2 : ¬ ((ds.length : Int) = n) := by omega
    simp only [h, h2, decide_false]
    walk_at "ev"
def spB (n k : Nat) : D → Bool
  | .tup ds => decide (ds.length = k) && ds.all (ptB n)
  | _ => false
/-- a kind of tie and how many points its spot has -/
def Kind (n : Nat) (z : Str) (k : Nat) : Prop := (z = "rod" ∧ k = 2) ∨ (z = "hinge" ∧ k = n - 1 ∧ 2 ≤ n) ∨ (z = "weld" ∧ k = 0)
theorem e_points_in {n k : Nat} {z : Str} {s : PenS} (h : Kind n z k) : f_points_in [.int n, .str z] s = .ok (.int (k : Nat)) s := by
  unfold f_points_in m_points_in
  rcases h with ⟨rfl, rfl⟩ | ⟨rfl, rfl, h2⟩ | ⟨rfl, rfl⟩
  · rfl
  · have e : ((n - 1 : Nat) : Int) = (n : Int) - 1 := by omega
    rw [e]
    rfl
  · rfl
theorem e_has_spot_form {n k m : Nat} {z : Str} {d : D} {s : PenS} (h : Kind n z k) (hd : vf (m + 2) d) : f_has_spot_form [.int n, .str z, d] s = .ok (.bl (spB n k d)) s := by
  unfold f_has_spot_form m_has_spot_form
  walk_at "ev"
  cases d <;> first
    | rfl
    | exact hd.elim
    | skip
  rename_i ds
  walk_at "ev"
  rw [e_points_in h]
  walk_at "ev"
  have e : (spB n k (.tup ds)) = (decide (ds.length = k) && ds.all (ptB n)) := rfl
  rw [e]
  by_cases h : ds.length = k
  · simp only [h, decide_true, Bool.not_true]
    walk_at "ev"
    rw [ap_lc (ds := ds) (fun d => .bl (ptB n d)) (by walk_at "ev") (le1000 hd.1) (fun x hx => by walk_at "ev"; rw [e_has_point_form (hd.2 x hx)])]
    walk_at "ev"
    rw [ap_all]
  · have h2 : ¬ ((ds.length : Int) = k) := by omega
    simp only [h, h2, decide_false, Bool.not_false]
    walk_at "ev"
theorem e_law_is_spot {n k m : Nat} {z : Str} {d : D} {s : PenS} (h : Kind n z k) (hd : vf (m + 2) d) : f_law_is_spot [.int n, .str z, d] s = .ok (.bl (spB n k d)) s := by
  unfold f_law_is_spot m_law_is_spot
  have e0 : dIf (dTest (dOp dEq (dVar 1) fun _ => M.ok (.str "rod"))) (fun _ => M.ok (.int 2)) (dIf (dTest (dOp dEq (dVar 1) fun _ => M.ok (.str "hinge"))) (dOp dSub (dVar 0) fun _ => M.ok (.int 1)) fun _ => M.ok (.int 0)) [some (.int n), some (.str z), some d, none, none] s = .ok (.int (k : Nat)) s := by
    rcases h with ⟨rfl, rfl⟩ | ⟨rfl, rfl, h2⟩ | ⟨rfl, rfl⟩
    · rfl
    · have e : ((n - 1 : Nat) : Int) = (n : Int) - 1 := by omega
      rw [e]
      rfl
    · rfl
  simp only [ap_def, ap_body, startD, List.map_cons, List.map_nil, List.length_cons, List.length_nil, ap_chk, ap_bind, ap_seq, ap_asg, Nat.reduceAdd, Nat.reduceSub, List.replicate_succ, List.replicate_zero, List.cons_append, List.nil_append, decide_true]
  rw [e0]
  walk_at "ev"
  cases d <;> first
    | rfl
    | exact hd.elim
    | skip
  rename_i ds
  walk_at "ev"
  have e : (spB n k (.tup ds)) = (decide (ds.length = k) && ds.all (ptB n)) := rfl
  rw [e]
  by_cases h : ds.length = k
  · simp only [h, decide_true]
    walk_at "ev"
    rw [ap_lc (ds := ds) (fun d => .bl (ptB n d)) (by walk_at "ev") (le1000 hd.1) (fun x hx => by walk_at "ev"; rw [e_law_is_point (hd.2 x hx)])]
    walk_at "ev"
    rw [ap_all]
  · have h2 : ¬ ((ds.length : Int) = k) := by omega
    simp only [h, h2, decide_false]
    walk_at "ev"
theorem e_law_says (a b : Bool) (s : PenS) : f_law_says [.bl a, .bl b] s = .ok (.bl (decide (a = b))) s := by
  cases a <;> cases b <;> rfl

theorem e_draw {n : Nat} {m : Int} {s : PenS} (g : Good n s) (hn : n + 1 ≤ LIM) (m0 : 0 < m) (m1 : m < 1073741824) : ∃ r s', f_law_draw [.pen, .int m] s = .ok (.int r) s' ∧ 0 ≤ r ∧ r < m ∧ Good (n + 1) s' :=
  draw_ok (k := 50021) (j := 7127) (p1 := 2147483587) (p2 := 2147483549) (j2 := 7127) (c := 33091) (k2 := 50021) (p3 := 2147483647) ⟨by decide, by decide, by decide, by decide, by decide, by decide, by decide, by decide⟩ g hn m0 m1
theorem e_pick {n : Nat} {ds : List D} {s : PenS} (g : Good n s) (hn : n + 1 ≤ LIM) (h0 : ds ≠ []) (h1 : ds.length ≤ 1000) : ∃ d s', f_law_pick [.pen, .lst ds] s = .ok d s' ∧ d ∈ ds ∧ Good (n + 1) s' := by
  have hl : 0 < ds.length := List.length_pos_iff.mpr h0
  obtain ⟨r, s', e, r0, r1, g'⟩ := e_draw (m := ((ds.length : Nat) : Int)) g hn (by omega) (by omega)
  obtain ⟨j, rfl⟩ : ∃ j : Nat, r = (j : Nat) := ⟨r.toNat, by omega⟩
  have hj : j < ds.length := by omega
  refine ⟨ds[j], s', ?_, List.getElem_mem hj, g'⟩
  unfold f_law_pick m_law_pick
  walk_at "ev"
  rw [e]
  walk_at "ev"
  rw [ap_ixl s' (d := ds[j]) (by simp [hj])]
theorem p6 (s : PenS) : dPow (.int 10) (.int 6) s = .ok (.int 1000000) s := by kernel_rfl
theorem p12 (s : PenS) : dPow (.int 10) (.int 12) s = .ok (.int 1000000000000) s := by kernel_rfl
theorem p40 (s : PenS) : dPow (.int 10) (.int 40) s = .ok (.int 10000000000000000000000000000000000000000) s := by kernel_rfl
theorem l1000 {n : Nat} (h : n ≤ 1000) : decide (n ≤ sizeLine) = true := decide_eq_true (line1000 h)
theorem e_far {n : Nat} {s : PenS} (g : Good n s) (hn : n + 4 ≤ LIM) : ∃ i s', f_law_far [.pen] s = .ok (.int i) s' ∧ -999999999999 ≤ i ∧ i ≤ 999999999999 ∧ Good (n + 4) s' := by
  obtain ⟨r, s1, e1, r0, r1, g1⟩ := e_draw (m := 6) g (by omega) (by omega) (by omega)
  unfold f_law_far m_law_far
  walk_at "ev"
  rw [e1]
  walk_at "ev"
  by_cases h : r = 0
  · simp only [h, decide_true]
    walk_at "ev"
    simp only [l1000 (show 2 ≤ 1000 by omega)]
    walk_at "ev"
    obtain ⟨d, s2, e2, hd, g2⟩ := e_pick (ds := [.int 999999999999, .int (-999999999999)]) g1 (by omega) (by simp) (by simp)
    rw [e2]
    walk_at "ev"
    rcases List.mem_cons.mp hd with rfl | hd
    · exact ⟨_, _, rfl, by omega, by omega, g2.mono (by omega)⟩
    · cases List.mem_singleton.mp hd
      exact ⟨_, _, rfl, by omega, by omega, g2.mono (by omega)⟩
  · simp only [h, decide_false]
    walk_at "ev"
    obtain ⟨a, s2, e2, a0, a1, g2⟩ := e_draw (m := 2) g1 (by omega) (by omega) (by omega)
    rw [e2]
    walk_at "ev"
    simp only [p6, ap_mul _ (mulL (i := 2) (j := a) ⟨by omega, by omega⟩)]
    walk_at "ev"
    obtain ⟨b, s3, e3, b0, b1, g3⟩ := e_draw (m := 1000000) g2 (by omega) (by omega) (by omega)
    simp only [p6, e3]
    walk_at "ev"
    obtain ⟨c, s4, e4, c0, c1, g4⟩ := e_draw (m := 1000000) g3 (by omega) (by omega) (by omega)
    simp only [p6, e4, ap_mul _ (mulR (i := b) (j := 1000000) ⟨by omega, by omega⟩)]
    walk_at "ev"
    try simp only [p6, e4]
    walk_at "ev"
    simp only [ap_mul _ (mulL (i := 1 - 2 * a) (j := b * 1000000 + c) ⟨by omega, by omega⟩)]
    refine ⟨_, _, rfl, ?_, ?_, g4.mono (by omega)⟩
    · have : a = 0 ∨ a = 1 := by omega
      rcases this with rfl | rfl <;> omega
    · have : a = 0 ∨ a = 1 := by omega
      rcases this with rfl | rfl <;> omega
abbrev B40 : Int := 10000000000000000000000000000000000000000
theorem e_number {n : Nat} {s : PenS} (g : Good n s) (hn : n + 9 ≤ LIM) : ∃ i s', f_law_number [.pen] s = .ok (.int i) s' ∧ -B40 ≤ i ∧ i ≤ B40 ∧ Good (n + 9) s' := by
  unfold f_law_number m_law_number
  walk_at "ev"
  simp only [p6]
  walk_at "ev"
  simp only [l1000 (show 3 ≤ 1000 by omega)]
  walk_at "ev"
  obtain ⟨d, s1, e1, hd, g1⟩ := e_pick (ds := [.int 3, .int 40, .int 1000000]) g (by omega) (by simp) (by simp)
  rw [e1]
  walk_at "ev"
  obtain ⟨z, rfl, z0, z1⟩ : ∃ z, d = .int z ∧ 3 ≤ z ∧ z ≤ 1000000 := by
    rcases List.mem_cons.mp hd with rfl | hd
    · exact ⟨_, rfl, by omega, by omega⟩
    rcases List.mem_cons.mp hd with rfl | hd
    · exact ⟨_, rfl, by omega, by omega⟩
    cases List.mem_singleton.mp hd
    exact ⟨_, rfl, by omega, by omega⟩
  simp only [p12]
  walk_at "ev"
  obtain ⟨f, s2, e2, f0, f1, g2⟩ := e_far g1 (by omega)
  simp only [e2, p40]
  walk_at "ev"
  try simp only [p40]
  walk_at "ev"
  simp only [l1000 (show 5 ≤ 1000 by omega)]
  walk_at "ev"
  obtain ⟨d2, s3, e3, hd2, g3⟩ := e_pick (ds := [.int 999999999999, .int 999999999998, .int 1000000000000, .int f, .int 10000000000000000000000000000000000000000]) g2 (by omega) (by simp) (by simp)
  rw [e3]
  obtain ⟨y, rfl, y0, y1⟩ : ∃ z, d2 = .int z ∧ -B40 ≤ z ∧ z ≤ B40 := by
    have b : B40 = 10000000000000000000000000000000000000000 := rfl
    rcases List.mem_cons.mp hd2 with rfl | hd2
    · exact ⟨_, rfl, by omega, by omega⟩
    rcases List.mem_cons.mp hd2 with rfl | hd2
    · exact ⟨_, rfl, by omega, by omega⟩
    rcases List.mem_cons.mp hd2 with rfl | hd2
    · exact ⟨_, rfl, by omega, by omega⟩
    rcases List.mem_cons.mp hd2 with rfl | hd2
    · exact ⟨_, rfl, by omega, by omega⟩
    cases List.mem_singleton.mp hd2
    exact ⟨_, rfl, by omega, by omega⟩
  walk_at "ev"
  obtain ⟨w, s4, e4, w0, w1, g4⟩ := e_draw (m := 5) g3 (by omega) (by omega) (by omega)
  rw [e4]
  walk_at "ev"
  obtain ⟨a, s5, e5, a0, a1, g5⟩ := e_draw (m := 2) g4 (by omega) (by omega) (by omega)
  rw [e5]
  walk_at "ev"
  simp only [ap_mul _ (mulL (i := 2) (j := a) ⟨by omega, by omega⟩)]
  walk_at "ev"
  have b : B40 = 10000000000000000000000000000000000000000 := rfl
  by_cases h : w = 0
  · simp only [h, decide_true]
    walk_at "ev"
    simp only [ap_mul _ (mulL (i := 1 - 2 * a) (j := y) ⟨by omega, by omega⟩)]
    refine ⟨_, _, rfl, ?_, ?_, g5.mono (by omega)⟩
    · have : a = 0 ∨ a = 1 := by omega
      rcases this with rfl | rfl <;> omega
    · have : a = 0 ∨ a = 1 := by omega
      rcases this with rfl | rfl <;> omega
  · simp only [h, decide_false]
    walk_at "ev"
    simp only [ap_mul _ (mulL (i := 2) (j := z) ⟨by omega, by omega⟩)]
    walk_at "ev"
    obtain ⟨c, s6, e6, c0, c1, g6⟩ := e_draw (m := 2 * z + 1) g5 (by omega) (by omega) (by omega)
    rw [e6]
    walk_at "ev"
    exact ⟨_, _, rfl, by omega, by omega, g6.mono (by omega)⟩

def isI (d : D) : Prop := ∃ i, d = .int i ∧ -B40 ≤ i ∧ i ≤ B40
theorem isI_vf {n : Nat} {d : D} (h : isI d) : vf n d := by
  obtain ⟨i, rfl, _⟩ := h
  cases n <;> trivial
theorem rng_n {l : En → M (List D)} {ρ : En} {s s' : PenS} {n : Nat} (h : l ρ s = .ok [.int (n : Nat)] s') (h3 : n ≤ 1000) : dRng1 l ρ s = .ok ((List.range n).map fun i => .int (0 + (i : Nat))) s' := by
  rw [ap_rng1 l ρ s n h (by omega) (by omega)]
  simp
/-- a point of any numbers -/
theorem e_nums {k n : Nat} {s : PenS} {i : Nat} {ρ : En} {vs : List Nat} {l : En → M (List D)} (h3 : n ≤ 6) (g : Good k s) (hk : k + 54 ≤ LIM) (hl : l ρ s = .ok [.int (n : Nat)] s) (hp : ∀ d, ((wipeD ρ vs).set i (some d))[0]? = some (some .pen)) :
    ∃ ns : List Int, ∃ s2, dLc (dRng1 l) (dName i) (fun _ => M.ok true) (dCallP f_law_number (dCons (dVar 0) (fun _ => M.ok []))) vs ρ s = .ok (.lst (ns.map .int)) s2 ∧ ns.length = n ∧ (∀ y ∈ ns, -B40 ≤ y ∧ y ≤ B40) ∧ Good (k + 54) s2 := by
  obtain ⟨ys, s2, e, el, py, g2⟩ := ap_lcP (te := dCallP f_law_number (dCons (dVar 0) (fun _ => M.ok []))) (i := i) (vs := vs) (ρ := ρ) k 9 LIM isI (rng_n hl (by omega)) (line1000 (by simp; omega)) g (by simp; omega) (fun d _ n' s' g' hn => by
    obtain ⟨z, s2, e, z0, z1, g2⟩ := e_number g' hn
    refine ⟨_, s2, ?_, ⟨z, rfl, z0, z1⟩, g2⟩
    walk_at "ev"
    rw [hp d]
    walk_at "ev"
    rw [e])
  have key : ∀ ys : List D, (∀ y ∈ ys, isI y) → ∃ ns : List Int, ys = ns.map .int ∧ ∀ y ∈ ns, -B40 ≤ y ∧ y ≤ B40 := by
    intro ys
    induction ys with
    | nil => exact fun _ => ⟨[], rfl, fun _ h => nomatch h⟩
    | cons a l ih =>
      intro h
      obtain ⟨ns, e, hn⟩ := ih fun y hy => h y (List.mem_cons_of_mem _ hy)
      obtain ⟨i, rfl, hi⟩ := h a List.mem_cons_self
      refine ⟨i :: ns, by rw [e]; rfl, fun y hy => ?_⟩
      cases hy with
      | head => exact hi
      | tail _ hy => exact hn y hy
  obtain ⟨ns, rfl, hn⟩ := key ys py
  have en : ns.length = n := by simpa using el
  exact ⟨ns, s2, e, en, hn, g2.mono (by simp; omega)⟩
theorem ints_vf (ns : List Int) (m : Nat) : ∀ x ∈ ns.map D.int, vf m x := by
  intro x hx
  obtain ⟨i, _, rfl⟩ := List.mem_map.mp hx
  cases m <;> trivial
theorem e_odd {k n : Nat} {s : PenS} (h1 : 1 ≤ n) (h3 : n ≤ 3) (g : Good k s) (hk : k + 56 ≤ LIM) : ∃ d s', f_law_odd [.pen, .int n] s = .ok d s' ∧ vf 3 d ∧ Good (k + 56) s' := by
  unfold f_law_odd m_law_odd
  walk_at "ev"
  obtain ⟨ns, s1, e1, el, hn, g1⟩ := e_nums (n := n) (i := 5) (vs := [5]) (ρ := [some .pen, some (.int n), none, none, none, none]) (l := dCons (dVar 1) fun _ => M.ok []) (by omega) g (by omega) (by walk_at "ev") (fun d => rfl)
  rw [e1]
  walk_at "ev"
  obtain ⟨r, s2, e2, r0, r1, g2⟩ := e_draw (m := ((n : Nat) : Int)) g1 (by omega) (by omega) (by omega)
  rw [e2]
  obtain ⟨j, rfl⟩ : ∃ j : Nat, r = (j : Nat) := ⟨r.toNat, by omega⟩
  have hj : j < ns.length := by omega
  have hl : (ns.map D.int).length ≤ 3 := by simp; omega
  have hv := ints_vf ns
  have hi : (ns.map D.int)[j]? = some (.int ns[j]) := by simp [hj]
  have hz : (ns.map D.int)[0]? = some (.int (ns[0]'(by omega))) := by simp [show 0 < ns.length by omega]
  have es : ∀ s, strD (.int ns[j]) s = .ok (.str (toString ns[j])) s := fun s => ap_str (by
    have := hn ns[j] (List.getElem_mem hj)
    have b : B40 = 10000000000000000000000000000000000000000 := rfl
    omega) s
  have ei : ∀ s, dIx (.tup (ns.map D.int)) (.int (j : Nat)) s = .ok (.int ns[j]) s := fun s => ap_ixt s hi
  have e0 : ∀ s, dIx (.tup (ns.map D.int)) (.int 0) s = .ok (.int (ns[0]'(by omega))) s := fun s => ap_ixt (j := 0) s hz
  generalize hN : ns.map D.int = N at *
  have c1 := cut_le N none (some (j : Int))
  have c2 := cut_le N (some ((j : Int) + 1)) none
  have c3 := cut_le N (some 1) none
  walk_at "evd"
  simp (disch := omega) only [ei, e0, es]
  walk_at "evd"
  simp only [es]
  walk_at "evd"
  obtain ⟨d, s3, e3, hd, g3⟩ := e_pick (ds := [.tup N, .tup N, .tup N, .lst N, .tup (N ++ [.int 0]), .tup (cutD N (some 1) none), .tup (cutD N none (some (j : Int)) ++ [.bl true] ++ cutD N (some ((j : Int) + 1)) none),
    .tup (cutD N none (some (j : Int)) ++ [.str (toString ns[j])] ++ cutD N (some ((j : Int) + 1)) none), .tup (cutD N none (some (j : Int)) ++ [.non] ++ cutD N (some ((j : Int) + 1)) none), .non, .int (ns[0]'(by omega)), .tup [.tup N], .str "0"]) g2 (by omega) (List.cons_ne_nil _ _) (by simp)
  simp only [e3]
  refine ⟨d, s3, rfl, ?_, g3.mono (by omega)⟩
  have cut : ∀ x : D, (∀ m, vf m x) → vf 3 (.tup (cutD N none (some (j : Int)) ++ [x] ++ cutD N (some ((j : Int) + 1)) none)) := fun x hx => by
    refine ⟨by simp only [List.length_append, List.length_cons, List.length_nil]; omega, fun y hy => ?_⟩
    rcases List.mem_append.mp hy with hy | hy
    · rcases List.mem_append.mp hy with hy | hy
      · exact hv 2 y (cut_mem hy)
      · cases List.mem_singleton.mp hy
        exact hx 2
    · exact hv 2 y (cut_mem hy)
  have tupN : vf 3 (.tup N) := ⟨by omega, hv 2⟩
  rcases List.mem_cons.mp hd with rfl | hd
  · exact tupN
  rcases List.mem_cons.mp hd with rfl | hd
  · exact tupN
  rcases List.mem_cons.mp hd with rfl | hd
  · exact tupN
  rcases List.mem_cons.mp hd with rfl | hd
  · exact ⟨by omega, hv 2⟩
  rcases List.mem_cons.mp hd with rfl | hd
  · refine ⟨by simp only [List.length_append, List.length_cons, List.length_nil]; omega, fun y hy => ?_⟩
    rcases List.mem_append.mp hy with hy | hy
    · exact hv 2 y hy
    · cases List.mem_singleton.mp hy
      trivial
  rcases List.mem_cons.mp hd with rfl | hd
  · exact ⟨by omega, fun y hy => hv 2 y (cut_mem hy)⟩
  rcases List.mem_cons.mp hd with rfl | hd
  · exact cut _ fun m => by cases m <;> trivial
  rcases List.mem_cons.mp hd with rfl | hd
  · exact cut _ fun m => by cases m <;> trivial
  rcases List.mem_cons.mp hd with rfl | hd
  · exact cut _ fun m => by cases m <;> trivial
  rcases List.mem_cons.mp hd with rfl | hd
  · trivial
  rcases List.mem_cons.mp hd with rfl | hd
  · trivial
  rcases List.mem_cons.mp hd with rfl | hd
  · refine ⟨by simp, fun y hy => ?_⟩
    cases List.mem_singleton.mp hy
    exact ⟨by omega, hv 1⟩
  cases List.mem_singleton.mp hd
  trivial

theorem e_need (n : Nat) (h1 : 1 ≤ n) (h3 : n ≤ 3) (s : PenS) : f_need_dimension [.int n] s = .ok .non s := by
  have e : n = 1 ∨ n = 2 ∨ n = 3 := by omega
  rcases e with rfl | rfl | rfl <;> rfl
theorem e_is_point {n m : Nat} {d : D} {s : PenS} (h1 : 1 ≤ n) (h3 : n ≤ 3) (hd : vf (m + 1) d) : f_is_point [.int n, d] s = .ok (.bl (ptB n d)) s := by
  unfold f_is_point m_is_point
  walk_at "ev"
  rw [e_need n h1 h3]
  walk_at "ev"
  rw [e_has_point_form hd]
theorem kind_in {n k : Nat} {z : Str} (h1 : 1 ≤ n) (h3 : n ≤ 3) (h : Kind n z k) (s : PenS) : M.bind (f_kinds_in [.int n]) (dIn true (.str z)) s = .ok (.bl false) s := by
  have e : n = 1 ∨ n = 2 ∨ n = 3 := by omega
  rcases e with rfl | rfl | rfl
  · rcases h with ⟨rfl, _⟩ | ⟨_, _, h⟩ | ⟨rfl, _⟩
    · kernel_rfl
    · omega
    · kernel_rfl
  · rcases h with ⟨rfl, _⟩ | ⟨rfl, _, h⟩ | ⟨rfl, _⟩ <;> kernel_rfl
  · rcases h with ⟨rfl, _⟩ | ⟨rfl, _, h⟩ | ⟨rfl, _⟩ <;> kernel_rfl
theorem kinds_ok (n : Nat) (h1 : 1 ≤ n) (h3 : n ≤ 3) (s : PenS) : ∃ d, f_kinds_in [.int n] s = .ok d s := by
  have e : n = 1 ∨ n = 2 ∨ n = 3 := by omega
  rcases e with rfl | rfl | rfl <;> exact ⟨_, rfl⟩
theorem e_is_spot {n k m : Nat} {z : Str} {d : D} {s : PenS} (h1 : 1 ≤ n) (h3 : n ≤ 3) (h : Kind n z k) (hd : vf (m + 2) d) : f_is_spot [.int n, .str z, d] s = .ok (.bl (spB n k d)) s := by
  unfold f_is_spot m_is_spot
  walk_at "ev"
  rw [e_need n h1 h3]
  walk_at "ev"
  obtain ⟨kd, ek⟩ := kinds_ok n h1 h3 s
  have e2 := kind_in h1 h3 h s
  rw [ap_bind, ek] at e2
  simp only at e2
  rw [ek]
  walk_at "ev"
  rw [e2]
  walk_at "ev"
  rw [e_has_spot_form h hd]
theorem says_self (b : Bool) (s : PenS) : f_law_says [.bl b, .bl b] s = .ok (.bl true) s := by
  rw [e_law_says, decide_eq_true rfl]
/-- drawn small points -/
theorem e_good {k n : Nat} {s : PenS} {ρ : En} (h3 : n ≤ 3) (g : Good k s) (hk : k + 10 ≤ LIM) (h0 : ρ[0]? = some (some .pen)) (h1 : ρ[1]? = some (some (.int n))) (hl : ρ.length = 11) :
    ∃ G s2, dLc (dRng1 (dCons (dCallP f_law_draw (dCons (dVar 0) (dCons (fun _ => M.ok (.int 4)) (fun _ => M.ok [])))) (fun _ => M.ok []))) (dName 9) (fun _ => M.ok true) (dCall (bOne tupleD) (dCons (dLc (dRng1 (dCons (dVar 1) (fun _ => M.ok []))) (dName 10) (fun _ => M.ok true) (dOp dSub (dCallP f_law_draw (dCons (dVar 0) (dCons (fun _ => M.ok (.int 9)) (fun _ => M.ok [])))) (fun _ => M.ok (.int 4))) [10]) (fun _ => M.ok []))) [9] ρ s = .ok (.lst G) s2 ∧ G.length ≤ 3 ∧ (∀ y ∈ G, vf 3 y) ∧ Good (k + 10) s2 := by
  obtain ⟨r, s1, e1, r0, r1, g1⟩ := e_draw (m := 4) g (by omega) (by omega) (by omega)
  obtain ⟨j, rfl⟩ : ∃ j : Nat, r = (j : Nat) := ⟨r.toNat, by omega⟩
  have hj : j ≤ 3 := by omega
  obtain ⟨G, s2, e2, el, py, g2⟩ := ap_lcP (te := (dCall (bOne tupleD) (dCons (dLc (dRng1 (dCons (dVar 1) (fun _ => M.ok []))) (dName 10) (fun _ => M.ok true) (dOp dSub (dCallP f_law_draw (dCons (dVar 0) (dCons (fun _ => M.ok (.int 9)) (fun _ => M.ok [])))) (fun _ => M.ok (.int 4))) [10]) (fun _ => M.ok [])))) (i := 9) (vs := [9]) (ρ := ρ) (s := s) (k + 1) 3 (k + 10) (vf 3)
    (rng_n (n := j) (s' := s1) (l := dCons (dCallP f_law_draw (dCons (dVar 0) (dCons (fun _ => M.ok (.int 4)) (fun _ => M.ok [])))) (fun _ => M.ok [])) (by walk_at "ev"; rw [h0]; walk_at "ev"; rw [e1]) (by omega)) (line1000 (by simp; omega)) g1 (by simp; omega) (fun d _ n' s' g' hn => by
      have h0' : ((wipeD ρ [9]).set 9 (some d))[0]? = some (some .pen) := by simpa [wipeD, List.getElem?_set] using h0
      have h1' : ((wipeD ρ [9]).set 9 (some d))[1]? = some (some (.int n)) := by simpa [wipeD, List.getElem?_set] using h1
      generalize (wipeD ρ [9]).set 9 (some d) = ρ' at h0' h1'
      obtain ⟨ys, s3, e3, el3, py3, g3⟩ := ap_lcP (te := dOp dSub (dCallP f_law_draw (dCons (dVar 0) (dCons (fun _ => M.ok (.int 9)) (fun _ => M.ok [])))) (fun _ => M.ok (.int 4))) (i := 10) (vs := [10]) (ρ := ρ') (s := s') n' 1 (k + 10) (fun y => ∃ i, y = .int i)
        (rng_n (n := n) (s' := s') (l := dCons (dVar 1) (fun _ => M.ok [])) (by walk_at "ev"; rw [h1']) (by omega)) (line1000 (by simp; omega)) g' (by simp; omega) (fun d _ n2 s2 g2 hn2 => by
          obtain ⟨q, s4, e4, _, _, g4⟩ := e_draw (m := 9) g2 (by omega) (by omega) (by omega)
          have h0'' : ((wipeD ρ' [10]).set 10 (some d))[0]? = some (some .pen) := by simpa [wipeD, List.getElem?_set] using h0'
          generalize (wipeD ρ' [10]).set 10 (some d) = ρ2 at h0''
          refine ⟨.int (q - 4), s4, ?_, ⟨_, rfl⟩, g4⟩
          walk_at "ev"
          rw [h0'']
          walk_at "ev"
          rw [e4]
          walk_at "ev")
      refine ⟨.tup ys, s3, ?_, ⟨by simp at el3; omega, fun x hx => ?_⟩, g3.mono (by simp; omega)⟩
      · walk_at "ev"
        rw [e3]
        walk_at "ev"
      · obtain ⟨i, rfl⟩ := py3 x hx
        trivial)
  exact ⟨G, s2, e2, by simp at el; omega, py, g2.mono (by simp; omega)⟩
theorem vf_up {d : D} : ∀ {n : Nat}, vf n d → vf (n + 1) d := by
  have key : ∀ (n : Nat) (d : D), vf n d → vf (n + 1) d := by
    intro n
    induction n with
    | zero =>
      intro d h
      cases d with
      | lst ds => cases (show ds = [] from h); exact ⟨by simp, fun _ h => nomatch h⟩
      | tup ds => cases (show ds = [] from h); exact ⟨by simp, fun _ h => nomatch h⟩
      | pen => exact h.elim
      | _ => trivial
    | succ n ih =>
      intro d h
      cases d with
      | lst ds => exact ⟨h.1, fun x hx => ih x (h.2 x hx)⟩
      | tup ds => exact ⟨h.1, fun x hx => ih x (h.2 x hx)⟩
      | pen => exact h.elim
      | _ => trivial
  exact fun {n} h => key n d h
theorem vf_tup {m : Nat} {ds : List D} (h : ds.length ≤ 1000) (v : ∀ x ∈ ds, vf m x) : vf (m + 1) (.tup ds) := ⟨h, v⟩
theorem vf_app {m : Nat} {a b : List D} (ha : ∀ x ∈ a, vf m x) (hb : ∀ x ∈ b, vf m x) : ∀ x ∈ a ++ b, vf m x := fun x hx => (List.mem_append.mp hx).elim (ha x) (hb x)
def spotBody : En → M Out := (dIfS (dTNot (dTest (dCallP f_law_says (dCons (dCallP f_is_spot (dCons (dVar 1) (dCons (dVar 4) (dCons (dVar 8) (fun _ => M.ok []))))) (dCons (dCallP f_law_is_spot (dCons (dVar 1) (dCons (dVar 4) (dCons (dVar 8) (fun _ => M.ok []))))) (fun _ => M.ok [])))))) (dRet (fun _ => M.ok (.bl false))) (fun ρ => M.ok (.nx ρ)))
def kindThen : En → M Out := (dSeq (dAsg (dCall (bOne tupleD) (dCons (dLc (dRng1 (dCons (dCallP f_law_draw (dCons (dVar 0) (dCons (fun _ => M.ok (.int 4)) (fun _ => M.ok [])))) (fun _ => M.ok []))) (dName 9) (fun _ => M.ok true) (dCall (bOne tupleD) (dCons (dLc (dRng1 (dCons (dVar 1) (fun _ => M.ok []))) (dName 10) (fun _ => M.ok true) (dOp dSub (dCallP f_law_draw (dCons (dVar 0) (dCons (fun _ => M.ok (.int 9)) (fun _ => M.ok [])))) (fun _ => M.ok (.int 4))) [10]) (fun _ => M.ok []))) [9]) (fun _ => M.ok []))) (dName 5))
    (dSeq (dAsg (dOp dMul (dSl (dVar 5) (fun _ => M.ok none) (dPart (fun _ => M.ok (.int 1)))) (dIf (dTest (dOp dEq (dVar 4) (fun _ => M.ok (.str "rod")))) (fun _ => M.ok (.int 2)) (dIf (dTest (dOp dEq (dVar 4) (fun _ => M.ok (.str "hinge")))) (dOp dSub (dVar 1) (fun _ => M.ok (.int 1))) (fun _ => M.ok (.int 0))))) (dName 6))
    (dSeq (dAsg (dLst (dCons (dVar 5) (dCons (dVar 6) (dCons (dOp dAdd (dSl (dVar 6) (dPart (fun _ => M.ok (.int 1))) (fun _ => M.ok none)) (dTup (dCons (dVar 3) (fun _ => M.ok [])))) (dCons (dOp dAdd (dTup (dCons (dVar 3) (fun _ => M.ok []))) (dSl (dVar 6) (dPart (fun _ => M.ok (.int 1))) (fun _ => M.ok none))) (dCons (dCall (bOne listD) (dCons (dVar 6) (fun _ => M.ok []))) (dCons (dOp dAdd (dVar 6) (dSl (dVar 5) (fun _ => M.ok none) (dPart (fun _ => M.ok (.int 1))))) (dCons (fun _ => M.ok .non) (dCons (fun _ => M.ok (.dct [] [])) (dCons (dVar 4) (fun _ => M.ok []))))))))))) (dName 7))
    (dFor (dIt (dVar 7)) (dName 8) (dIfS (dTNot (dTest (dCallP f_law_says (dCons (dCallP f_is_spot (dCons (dVar 1) (dCons (dVar 4) (dCons (dVar 8) (fun _ => M.ok []))))) (dCons (dCallP f_law_is_spot (dCons (dVar 1) (dCons (dVar 4) (dCons (dVar 8) (fun _ => M.ok []))))) (fun _ => M.ok [])))))) (dRet (fun _ => M.ok (.bl false))) (fun ρ => M.ok (.nx ρ)))))))
def kindBody : En → M Out := (dIfS (dTOr (dTest (dOp dGt (dVar 1) (fun _ => M.ok (.int 1)))) (dTest (dOp dEq (dVar 4) (fun _ => M.ok (.str "rod"))))) kindThen (fun ρ => M.ok (.nx ρ)))
theorem cut1 (G : List D) : (cutD G none (some 1)).length ≤ 1 := by
  unfold cutD
  rw [HT.sIx_none]
  have e : HT.sIx G.length G.length (some 1) ≤ 1 := by
    rw [show (1 : Int) = ((1 : Nat) : Int) from rfl, HT.sIx_nat]
    omega
  rw [List.length_take]
  omega
theorem kind_num {n k : Nat} {z : Str} {o0 o2 o3 : Option D} {r : List (Option D)} (h : Kind n z k) (s : PenS) : dIf (dTest (dOp dEq (dVar 4) fun _ => M.ok (.str "rod"))) (fun _ => M.ok (.int 2)) (dIf (dTest (dOp dEq (dVar 4) fun _ => M.ok (.str "hinge"))) (dOp dSub (dVar 1) fun _ => M.ok (.int 1)) fun _ => M.ok (.int 0)) (o0 :: some (.int n) :: o2 :: o3 :: some (.str z) :: r) s = .ok (.int (k : Nat)) s := by
  rcases h with ⟨rfl, rfl⟩ | ⟨rfl, rfl, h2⟩ | ⟨rfl, rfl⟩
  · rfl
  · have e : ((n - 1 : Nat) : Int) = (n : Int) - 1 := by omega
    rw [e]
    rfl
  · rfl
theorem e_then {n k c : Nat} {z : Str} {num val : D} {o5 o6 o7 o8 : Option D} {s : PenS} (h1 : 1 ≤ n) (h3 : n ≤ 3) (K : Kind n z k) (hv : vf 3 val) (g : Good c s) (hc : c + 10 ≤ LIM) :
    ∃ ρ1 s1, kindThen [some .pen, some (.int n), some num, some val, some (.str z), o5, o6, o7, o8, none, none] s = .ok (.nx ρ1) s1 ∧ (∃ o4 o5 o6 o7 o8, ρ1 = [some .pen, some (.int n), some num, some val, o4, o5, o6, o7, o8, none, none]) ∧ Good (c + 10) s1 := by
  have k3 : k ≤ 2 := by rcases K with ⟨_, h⟩ | ⟨_, h, _⟩ | ⟨_, h⟩ <;> omega
  unfold kindThen
  walk_at "ev"
  obtain ⟨G, s1, e1, lG, vG, g1⟩ := e_good (ρ := [some .pen, some (.int n), some num, some val, some (.str z), o5, o6, o7, o8, none, none]) h3 g hc rfl rfl rfl
  rw [e1]
  walk_at "ev"
  have kn := kind_num (o0 := some .pen) (o2 := some num) (o3 := some val) (r := [some (.tup G), o6, o7, o8, none, none]) K s1
  simp only [ap_if, ap_bind, ap_test, ap_op, ap_var, ap_ok, ap_eqs, ap_asB, List.getElem?_cons_zero, List.getElem?_cons_succ] at kn
  rw [kn]
  walk_at "ev"
  obtain ⟨X, eX, lX, mX⟩ := ap_mult (a := cutD G none (some 1)) (j := ((k : Nat) : Int)) (cut1 G) (by omega) (by omega) s1
  rw [eX]
  have c1 := cut_le X (some 1) none
  have c2 := cut1 G
  walk_at "evd"
  have vX : ∀ x ∈ X, vf 3 x := fun x hx => vG x (cut_mem (mX x hx))
  have v1 : ∀ x ∈ [val], vf 3 x := fun x hx => by cases List.mem_singleton.mp hx; exact hv
  have vc : ∀ x ∈ cutD X (some 1) none, vf 3 x := fun x hx => vX x (cut_mem hx)
  obtain ⟨ρ', s', e, ⟨q, hr⟩, g'⟩ := forGo_inv (g := dName 8) (b := spotBody) (fun i ρ s => (∃ q, ρ = [some .pen, some (.int n), some num, some val, some (.str z), some (.tup G), some (.tup X), some (.lst [.tup G, .tup X, .tup (cutD X (some 1) none ++ [val]), .tup ([val] ++ cutD X (some 1) none), .lst X, .tup (X ++ cutD G none (some 1)), .non, .dct [] [], .str z]), q, none, none]) ∧ Good (c + 10) s)
    [.tup G, .tup X, .tup (cutD X (some 1) none ++ [val]), .tup ([val] ++ cutD X (some 1) none), .lst X, .tup (X ++ cutD G none (some 1)), .non, .dct [] [], .str z] 0 _ s1 ⟨⟨o8, rfl⟩, g1⟩ (by
      rintro d hd i ρ s _ hi ⟨⟨q, rfl⟩, gs⟩
      have hd4 : vf 4 d := by
        rcases List.mem_cons.mp hd with rfl | hd
        · exact vf_tup (by omega) vG
        rcases List.mem_cons.mp hd with rfl | hd
        · exact vf_tup (by omega) vX
        rcases List.mem_cons.mp hd with rfl | hd
        · exact vf_tup (by simp only [List.length_append, List.length_cons, List.length_nil]; omega) (vf_app vc v1)
        rcases List.mem_cons.mp hd with rfl | hd
        · exact vf_tup (by simp only [List.length_append, List.length_cons, List.length_nil]; omega) (vf_app v1 vc)
        rcases List.mem_cons.mp hd with rfl | hd
        · exact ⟨by omega, vX⟩
        rcases List.mem_cons.mp hd with rfl | hd
        · exact vf_tup (by simp only [List.length_append]; omega) (vf_app vX fun x hx => vG x (cut_mem hx))
        rcases List.mem_cons.mp hd with rfl | hd
        · trivial
        rcases List.mem_cons.mp hd with rfl | hd
        · trivial
        cases List.mem_singleton.mp hd
        trivial
      unfold spotBody
      walk_at "ev"
      rw [e_is_spot h1 h3 K hd4]
      walk_at "ev"
      rw [e_law_is_spot K hd4]
      walk_at "ev"
      rw [says_self]
      walk_at "ev"
      exact ⟨_, s, rfl, ⟨_, rfl⟩, gs⟩)
  refine ⟨ρ', s', ?_, ⟨_, _, _, _, _, hr⟩, g'⟩
  exact e
theorem e_looks {k n : Nat} {s : PenS} (h1 : 1 ≤ n) (h3 : n ≤ 3) (g : Good k s) (hk : k + 200 ≤ LIM) : ∃ s', f_law_looks_right [.pen, .int n] s = .ok (.bl true) s' ∧ Good (k + 200) s' := by
  unfold f_law_looks_right m_law_looks_right
  walk_at "ev"
  obtain ⟨a, s1, e1, a0, a1, g1⟩ := e_number g (by omega)
  rw [e1]
  walk_at "ev"
  obtain ⟨b, s2, e2, b0, b1, g2⟩ := e_number g1 (by omega)
  rw [e2]
  walk_at "evd"
  obtain ⟨num, s3, e3, hnum, g3⟩ := e_pick (ds := [.int a, .int b, .bl true, .non, .str "1", .tup [.int 1]]) g2 (by omega) (List.cons_ne_nil _ _) (by simp)
  rw [e3]
  walk_at "ev"
  have knum : kdD num ≠ none := by
    rcases List.mem_cons.mp hnum with rfl | hnum
    · exact fun z => by cases z
    rcases List.mem_cons.mp hnum with rfl | hnum
    · exact fun z => by cases z
    rcases List.mem_cons.mp hnum with rfl | hnum
    · exact fun z => by cases z
    rcases List.mem_cons.mp hnum with rfl | hnum
    · exact fun z => by cases z
    rcases List.mem_cons.mp hnum with rfl | hnum
    · exact fun z => by cases z
    cases List.mem_singleton.mp hnum
    exact fun z => by cases z
  obtain ⟨val, s4, e4, vval, g4⟩ := e_odd (n := n) h1 h3 g3 (by omega)
  rw [e4]
  walk_at "ev"
  rw [e_coordinate knum]
  walk_at "ev"
  rw [e_law_is_coordinate knum]
  walk_at "ev"
  rw [says_self]
  walk_at "ev"
  rw [e_coordinate (vf_kd vval)]
  walk_at "ev"
  rw [e_law_is_coordinate (vf_kd vval)]
  walk_at "ev"
  rw [says_self]
  walk_at "ev"
  rw [e_is_point h1 h3 vval]
  walk_at "ev"
  rw [e_law_is_point vval]
  walk_at "ev"
  rw [says_self]
  walk_at "evd"
  generalize hF : forGo (dName 4) _ _ _ _ = r
  obtain ⟨ρ', s5, e5, ⟨o4, o5, o6, o7, o8, rfl⟩, g5⟩ : ∃ ρ' s', r = .ok (.nx ρ') s' ∧ (∃ o4 o5 o6 o7 o8, ρ' = [some .pen, some (.int n), some num, some val, o4, o5, o6, o7, o8, none, none]) ∧ Good (k + 150) s' := by
    rw [← hF]
    have lc : (cutD [D.str "rod", D.str "hinge", D.str "weld"] none (some ((n : Int) + 1))).length ≤ 3 := cut_le _ _ _
    have inv := forGo_inv (g := dName 4) (b := kindBody) (fun i ρ s => (∃ o4 o5 o6 o7 o8, ρ = [some .pen, some (.int n), some num, some val, o4, o5, o6, o7, o8, none, none]) ∧ Good (k + 75 + 10 * i) s) (cutD [D.str "rod", D.str "hinge", D.str "weld"] none (some ((n : Int) + 1))) 0 [some .pen, some (.int n), some num, some val, none, none, none, none, none, none, none] s4 ⟨⟨none, none, none, none, none, rfl⟩, g4.mono (by omega)⟩ (by
      rintro d hd i ρ s _ hi ⟨⟨o4, o5, o6, o7, o8, rfl⟩, gs⟩
      have hd := cut_mem hd
      have gs := gs.mono (show k + 75 + 10 * i ≤ k + 75 + 10 * i by omega)
      have step : ∀ z kk, Kind n z kk → ∃ ρ1 s1, kindThen [some .pen, some (.int n), some num, some val, some (.str z), o5, o6, o7, o8, none, none] s = .ok (.nx ρ1) s1 ∧ (∃ o4 o5 o6 o7 o8, ρ1 = [some .pen, some (.int n), some num, some val, o4, o5, o6, o7, o8, none, none]) ∧ Good (k + 75 + 10 * (i + 1)) s1 := fun z kk K => by
        obtain ⟨ρ1, s1, e, r, g⟩ := e_then (num := num) (o5 := o5) (o6 := o6) (o7 := o7) (o8 := o8) h1 h3 K vval gs (by omega)
        exact ⟨ρ1, s1, e, r, g.mono (by omega)⟩
      unfold kindBody
      walk_at "ev"
      by_cases hn : 1 < n
      · have hn' : (1 : Int) < n := by omega
        simp only [decide_eq_true hn']
        walk_at "ev"
        rcases List.mem_cons.mp hd with rfl | hd
        · exact step "rod" 2 (.inl ⟨rfl, rfl⟩)
        rcases List.mem_cons.mp hd with rfl | hd
        · exact step "hinge" (n - 1) (.inr (.inl ⟨rfl, rfl, hn⟩))
        cases List.mem_singleton.mp hd
        exact step "weld" 0 (.inr (.inr ⟨rfl, rfl⟩))
      · have hn' : ¬ (1 : Int) < n := by omega
        simp only [decide_eq_false hn']
        walk_at "ev"
        rcases List.mem_cons.mp hd with rfl | hd
        · exact step "rod" 2 (.inl ⟨rfl, rfl⟩)
        rcases List.mem_cons.mp hd with rfl | hd
        · exact ⟨_, s, rfl, ⟨_, _, _, _, _, rfl⟩, gs.mono (by omega)⟩
        cases List.mem_singleton.mp hd
        exact ⟨_, s, rfl, ⟨_, _, _, _, _, rfl⟩, gs.mono (by omega)⟩)
    obtain ⟨ρ', s', e, ⟨o4, o5, o6, o7, o8, hr⟩, g'⟩ := inv
    exact ⟨ρ', s', e, ⟨o4, o5, o6, o7, o8, hr⟩, g'.mono (by omega)⟩
  rw [e5]
  walk_at "evd"
  rw [e_is_spot (k := 0) (m := 0) (d := .tup []) h1 h3 (.inr (.inr ⟨rfl, rfl⟩)) ⟨by simp, fun _ h => nomatch h⟩]
  have e0 : spB n 0 (.tup []) = true := rfl
  rw [e0]
  walk_at "evd"
  obtain ⟨L, em, pL, vL⟩ : ∃ L, dMul (.tup [.int 0]) (.int n) s5 = .ok (.tup L) s5 ∧ ptB n (.tup L) = true ∧ vf 2 (.tup L) := by
    have e : n = 1 ∨ n = 2 ∨ n = 3 := by omega
    rcases e with rfl | rfl | rfl
    · exact ⟨[.int 0], rfl, rfl, by simp, fun x hx => by cases List.mem_singleton.mp hx; trivial⟩
    · exact ⟨[.int 0, .int 0], rfl, rfl, by simp, ints_vf [0, 0] 1⟩
    · exact ⟨[.int 0, .int 0, .int 0], rfl, rfl, by simp, ints_vf [0, 0, 0] 1⟩
  simp only [em]
  walk_at "ev"
  rw [e_is_point h1 h3 vL, pL]
  walk_at "ev"
  exact ⟨s5, rfl, g5.mono (by omega)⟩

def co (x : Int) : Prop := -999999999999 ≤ x ∧ x ≤ 999999999999
theorem co_coB {x : Int} (h : co x) : coB (.int x) = true := by
  show (decide (-MC ≤ x) && decide (x ≤ MC)) = true
  have m : MC = 999999999999 := rfl
  rw [m, decide_eq_true h.1, decide_eq_true h.2]
  rfl
theorem pt_ok {ns : List Int} (h : ∀ x ∈ ns, co x) : ptB ns.length (.tup (ns.map .int)) = true := by
  show (decide ((ns.map D.int).length = ns.length) && (ns.map D.int).all coB) = true
  rw [decide_eq_true (by simp), Bool.true_and, List.all_eq_true]
  intro d hd
  obtain ⟨x, hx, rfl⟩ := List.mem_map.mp hd
  exact co_coB (h x hx)
theorem vf_ints {ns : List Int} (h : ns.length ≤ 1000) (m : Nat) : vf (m + 1) (.tup (ns.map .int)) := vf_tup (by simpa using h) (ints_vf ns m)
theorem e_line {p q : List Int} {d : D} {s : PenS} (h1 : 1 ≤ p.length) (h3 : p.length ≤ 3) (hq : q.length = p.length) (cp : ∀ x ∈ p, co x) (cq : ∀ x ∈ q, co x) (e : f_line_between [.tup (p.map .int), .tup (q.map .int)] s = .ok d s) : f_line [.tup (p.map .int), .tup (q.map .int)] s = .ok d s := by
  have ea : f_has_any_point_form [.tup (p.map .int)] s = .ok (.bl true) s := by
    unfold f_has_any_point_form m_has_any_point_form
    walk_at "ev"
    have z1 : decide ((1 : Int) ≤ ((p.map D.int).length : Nat)) = true := decide_eq_true (by simp; omega)
    have z2 : decide ((((p.map D.int).length : Nat) : Int) ≤ 3) = true := decide_eq_true (by simp; omega)
    simp only [z1, z2]
    walk_at "ev"
    simp only [z1, z2]
    walk_at "ev"
    rw [List.length_map, e_has_point_form (vf_ints (by omega) 0), pt_ok cp]
  unfold f_line m_line
  walk_at "ev"
  rw [ea]
  walk_at "ev"
  rw [List.length_map, e_has_point_form (vf_ints (by omega) 0), ← hq, pt_ok cq]
  walk_at "ev"
  rw [e]
theorem e_small {ns : List Int} {s : PenS} (h : ns.length ≤ 1000) : f_is_small_motion [.int ((ns.map D.int).length : Nat), .tup (ns.map .int)] s = .ok (.bl true) s := by
  unfold f_is_small_motion m_is_small_motion
  walk_at "ev"
  rw [ap_lc (ds := ns.map .int) (fun d => .bl (intB d)) (by walk_at "ev") (line1000 (by simpa using h)) (fun x hx => by
    walk_at "ev"
    rw [e_is_integer (vf_kd (ints_vf ns 0 x hx))])]
  walk_at "ev"
  try simp only [eq_self, decide_true]
  walk_at "ev"
  rw [ap_all _ intB]
  have z : (ns.map D.int).all intB = true := by
    rw [List.all_eq_true]
    intro d hd
    obtain ⟨x, _, rfl⟩ := List.mem_map.mp hd
    rfl
  rw [z]
theorem e_same {L : List Int} {M : List D} {s : PenS} (hl : L.length ≤ 1000) (h : L.map D.int = M) : f_law_same [.tup (L.map .int), .lst M] s = .ok (.bl true) s := by
  subst h
  unfold f_law_same m_law_same
  walk_at "ev"
  try simp only [eq_self, decide_true]
  walk_at "ev"
  rw [ap_lc (ds := (List.range (L.map D.int).length).map fun i => .int (0 + (i : Nat))) (fun _ => .bl true) (rng_n (n := (L.map D.int).length) (by walk_at "ev") (by simpa using hl)) (line1000 (by simpa using hl)) (fun x hx => by
    obtain ⟨i, hi, rfl⟩ := List.mem_map.mp hx
    have hi : i < L.length := by simpa using hi
    have z : (0 : Int) + (i : Nat) = (i : Nat) := by omega
    have e1 : ∀ s, dIx (.tup (L.map D.int)) (.int (i : Nat)) s = .ok (.int L[i]) s := fun s => ap_ixt s (by simp [hi])
    have e2 : ∀ s, dIx (.lst (L.map D.int)) (.int (i : Nat)) s = .ok (.int L[i]) s := fun s => ap_ixl s (by simp [hi])
    walk_at "ev"
    rw [z]
    simp only [e1, e2]
    walk_at "ev"
    simp only [e1, e2]
    walk_at "ev"
    simp only [e1, e2]
    walk_at "ev"
    try simp only [eq_self, decide_true])]
  walk_at "ev"
  rw [ap_all _ (fun _ : D => true)]
  simp
theorem line1 {a x : Int} (s : PenS) (ha : co a) (hx : co x) : f_line_between [.tup [.int a], .tup [.int x]] s = .ok (.tup [.int (x - a)]) s := by
  obtain ⟨ha0, ha1⟩ := ha
  obtain ⟨hx0, hx1⟩ := hx
  unfold f_line_between m_line_between
  walk_at "evm"
  unfold f_speed_rows m_speed_rows
  walk_at "evm"
  walk_at "poly"
theorem lsp1L {m1 a : Int} (s : PenS) (ha : co a) : f_law_speed [.lst [.int m1], .tup [.int a]] s = .ok (.lst [.int m1]) s := by
  obtain ⟨ha0, ha1⟩ := ha
  unfold f_law_speed m_law_speed
  walk_at "evm"
theorem lsp1T {m1 a : Int} (s : PenS) (ha : co a) : f_law_speed [.tup [.int m1], .tup [.int a]] s = .ok (.lst [.int m1]) s := by
  obtain ⟨ha0, ha1⟩ := ha
  unfold f_law_speed m_law_speed
  walk_at "evm"
theorem speed1 {m1 a : Int} (s : PenS) (ha : co a) : f_speed [.tup [.int m1], .tup [.int a]] s = .ok (.tup [.int m1]) s := by
  have es : f_is_small_motion [.int 1, .tup [.int m1]] s = .ok (.bl true) s := e_small (ns := [m1]) (by simp)
  have ep : f_has_point_form [.int 1, .tup [.int a]] s = .ok (.bl true) s := by
    have z := e_has_point_form (n := 1) (m := 0) (d := .tup [.int a]) (s := s) (vf_ints (ns := [a]) (by simp) 0)
    rw [show ptB 1 (.tup [.int a]) = true from pt_ok (ns := [a]) (by simp only [List.mem_cons, List.not_mem_nil, or_false]; intro x hx; rcases hx with rfl <;> assumption)] at z
    exact z
  obtain ⟨ha0, ha1⟩ := ha
  unfold f_speed m_speed
  walk_at "evm"
  simp only [es]
  walk_at "evm"
  simp only [ep]
  walk_at "evm"
  unfold f_speed_rows m_speed_rows
  walk_at "evm"
  unfold f_times m_times
  walk_at "evm"
  walk_at "poly"
theorem line2 {a b x y : Int} (s : PenS) (ha : co a) (hb : co b) (hx : co x) (hy : co y) : f_line_between [.tup [.int a, .int b], .tup [.int x, .int y]] s = .ok (.tup [.int (x - a), .int (y - b), .int ((x - a) * -b + (y - b) * a)]) s := by
  obtain ⟨ha0, ha1⟩ := ha
  obtain ⟨hb0, hb1⟩ := hb
  obtain ⟨hx0, hx1⟩ := hx
  obtain ⟨hy0, hy1⟩ := hy
  unfold f_line_between m_line_between
  walk_at "evm"
  unfold f_speed_rows m_speed_rows
  walk_at "evm"
  walk_at "poly"
theorem lsp2L {m1 m2 m3 a b : Int} (s : PenS) (ha : co a) (hb : co b) : f_law_speed [.lst [.int m1, .int m2, .int m3], .tup [.int a, .int b]] s = .ok (.lst [.int (m1 - m3 * b), .int (m2 + m3 * a)]) s := by
  obtain ⟨ha0, ha1⟩ := ha
  obtain ⟨hb0, hb1⟩ := hb
  unfold f_law_speed m_law_speed
  walk_at "evm"
theorem lsp2T {m1 m2 m3 a b : Int} (s : PenS) (ha : co a) (hb : co b) : f_law_speed [.tup [.int m1, .int m2, .int m3], .tup [.int a, .int b]] s = .ok (.lst [.int (m1 - m3 * b), .int (m2 + m3 * a)]) s := by
  obtain ⟨ha0, ha1⟩ := ha
  obtain ⟨hb0, hb1⟩ := hb
  unfold f_law_speed m_law_speed
  walk_at "evm"
theorem speed2 {m1 m2 m3 a b : Int} (s : PenS) (ha : co a) (hb : co b) : f_speed [.tup [.int m1, .int m2, .int m3], .tup [.int a, .int b]] s = .ok (.tup [.int (m1 - m3 * b), .int (m2 + m3 * a)]) s := by
  have es : f_is_small_motion [.int 3, .tup [.int m1, .int m2, .int m3]] s = .ok (.bl true) s := e_small (ns := [m1, m2, m3]) (by simp)
  have ep : f_has_point_form [.int 2, .tup [.int a, .int b]] s = .ok (.bl true) s := by
    have z := e_has_point_form (n := 2) (m := 0) (d := .tup [.int a, .int b]) (s := s) (vf_ints (ns := [a, b]) (by simp) 0)
    rw [show ptB 2 (.tup [.int a, .int b]) = true from pt_ok (ns := [a, b]) (by simp only [List.mem_cons, List.not_mem_nil, or_false]; intro x hx; rcases hx with rfl | rfl <;> assumption)] at z
    exact z
  obtain ⟨ha0, ha1⟩ := ha
  obtain ⟨hb0, hb1⟩ := hb
  unfold f_speed m_speed
  walk_at "evm"
  simp only [es]
  walk_at "evm"
  simp only [ep]
  walk_at "evm"
  unfold f_speed_rows m_speed_rows
  walk_at "evm"
  unfold f_times m_times
  walk_at "evm"
  walk_at "poly"
theorem line3 {a b c x y z : Int} (s : PenS) (ha : co a) (hb : co b) (hc : co c) (hx : co x) (hy : co y) (hz : co z) : f_line_between [.tup [.int a, .int b, .int c], .tup [.int x, .int y, .int z]] s = .ok (.tup [.int (x - a), .int (y - b), .int (z - c), .int ((y - b) * -c + (z - c) * b), .int ((x - a) * c + (z - c) * -a), .int ((x - a) * -b + (y - b) * a)]) s := by
  obtain ⟨ha0, ha1⟩ := ha
  obtain ⟨hb0, hb1⟩ := hb
  obtain ⟨hc0, hc1⟩ := hc
  obtain ⟨hx0, hx1⟩ := hx
  obtain ⟨hy0, hy1⟩ := hy
  obtain ⟨hz0, hz1⟩ := hz
  unfold f_line_between m_line_between
  walk_at "evm"
  unfold f_speed_rows m_speed_rows
  walk_at "evm"
  walk_at "poly"
theorem lsp3L {m1 m2 m3 m4 m5 m6 a b c : Int} (s : PenS) (ha : co a) (hb : co b) (hc : co c) : f_law_speed [.lst [.int m1, .int m2, .int m3, .int m4, .int m5, .int m6], .tup [.int a, .int b, .int c]] s = .ok (.lst [.int (m1 + m5 * c - m6 * b), .int (m2 + m6 * a - m4 * c), .int (m3 + m4 * b - m5 * a)]) s := by
  obtain ⟨ha0, ha1⟩ := ha
  obtain ⟨hb0, hb1⟩ := hb
  obtain ⟨hc0, hc1⟩ := hc
  unfold f_law_speed m_law_speed
  walk_at "evm"
theorem lsp3T {m1 m2 m3 m4 m5 m6 a b c : Int} (s : PenS) (ha : co a) (hb : co b) (hc : co c) : f_law_speed [.tup [.int m1, .int m2, .int m3, .int m4, .int m5, .int m6], .tup [.int a, .int b, .int c]] s = .ok (.lst [.int (m1 + m5 * c - m6 * b), .int (m2 + m6 * a - m4 * c), .int (m3 + m4 * b - m5 * a)]) s := by
  obtain ⟨ha0, ha1⟩ := ha
  obtain ⟨hb0, hb1⟩ := hb
  obtain ⟨hc0, hc1⟩ := hc
  unfold f_law_speed m_law_speed
  walk_at "evm"
theorem speed3 {m1 m2 m3 m4 m5 m6 a b c : Int} (s : PenS) (ha : co a) (hb : co b) (hc : co c) : f_speed [.tup [.int m1, .int m2, .int m3, .int m4, .int m5, .int m6], .tup [.int a, .int b, .int c]] s = .ok (.tup [.int (m1 + m5 * c - m6 * b), .int (m2 + m6 * a - m4 * c), .int (m3 + m4 * b - m5 * a)]) s := by
  have es : f_is_small_motion [.int 6, .tup [.int m1, .int m2, .int m3, .int m4, .int m5, .int m6]] s = .ok (.bl true) s := e_small (ns := [m1, m2, m3, m4, m5, m6]) (by simp)
  have ep : f_has_point_form [.int 3, .tup [.int a, .int b, .int c]] s = .ok (.bl true) s := by
    have z := e_has_point_form (n := 3) (m := 0) (d := .tup [.int a, .int b, .int c]) (s := s) (vf_ints (ns := [a, b, c]) (by simp) 0)
    rw [show ptB 3 (.tup [.int a, .int b, .int c]) = true from pt_ok (ns := [a, b, c]) (by simp only [List.mem_cons, List.not_mem_nil, or_false]; intro x hx; rcases hx with rfl | rfl | rfl <;> assumption)] at z
    exact z
  obtain ⟨ha0, ha1⟩ := ha
  obtain ⟨hb0, hb1⟩ := hb
  obtain ⟨hc0, hc1⟩ := hc
  unfold f_speed m_speed
  walk_at "evm"
  simp only [es]
  walk_at "evm"
  simp only [ep]
  walk_at "evm"
  unfold f_speed_rows m_speed_rows
  walk_at "evm"
  unfold f_times m_times
  walk_at "evm"
  walk_at "poly"

theorem units_1 (s : PenS) : f_law_units [.int 1] s = .ok (.lst [.lst [.int 1]]) s := by kernel_rfl
theorem units_3 (s : PenS) : f_law_units [.int 3] s = .ok (.lst [.lst [.int 1, .int 0, .int 0], .lst [.int 0, .int 1, .int 0], .lst [.int 0, .int 0, .int 1]]) s := by kernel_rfl
theorem units_6 (s : PenS) : f_law_units [.int 6] s = .ok (.lst [.lst [.int 1, .int 0, .int 0, .int 0, .int 0, .int 0], .lst [.int 0, .int 1, .int 0, .int 0, .int 0, .int 0], .lst [.int 0, .int 0, .int 1, .int 0, .int 0, .int 0], .lst [.int 0, .int 0, .int 0, .int 1, .int 0, .int 0], .lst [.int 0, .int 0, .int 0, .int 0, .int 1, .int 0], .lst [.int 0, .int 0, .int 0, .int 0, .int 0, .int 1]]) s := by kernel_rfl
theorem ints_of {P : Int → Prop} : ∀ ys : List D, (∀ y ∈ ys, ∃ i, y = .int i ∧ P i) → ∃ ns : List Int, ys = ns.map .int ∧ ∀ y ∈ ns, P y
  | [], _ => ⟨[], rfl, fun _ h => nomatch h⟩
  | a :: l, h => by
    obtain ⟨ns, e, hn⟩ := ints_of l fun y hy => h y (List.mem_cons_of_mem _ hy)
    obtain ⟨i, rfl, hi⟩ := h a List.mem_cons_self
    refine ⟨i :: ns, by rw [e]; rfl, fun y hy => ?_⟩
    cases hy with
    | head => exact hi
    | tail _ hy => exact hn y hy
/-- drawn coordinates -/
theorem e_coords {k n : Nat} {z : Int} {s : PenS} {ρ : En} (h3 : n ≤ 3) (z0 : 0 ≤ z) (z1 : z ≤ 1000000) (g : Good k s) (hk : k + 12 ≤ LIM) (h0 : ρ[0]? = some (some .pen)) (h1 : ρ[1]? = some (some (.int n))) (h2 : ρ[2]? = some (some (.int z))) :
    ∃ ns : List Int, ∃ s2, dLc (dRng1 (dCons (dVar 1) (fun _ => M.ok []))) (dName 12) (fun _ => M.ok true) (dIf (dTest (dOp dGt (dVar 2) (fun _ => M.ok (.int 0)))) (dOp dSub (dCallP f_law_draw (dCons (dVar 0) (dCons (dOp dAdd (dOp dMul (fun _ => M.ok (.int 2)) (dVar 2)) (fun _ => M.ok (.int 1))) (fun _ => M.ok [])))) (dVar 2)) (dCallP f_law_far (dCons (dVar 0) (fun _ => M.ok [])))) [12] ρ s = .ok (.lst (ns.map .int)) s2 ∧ ns.length = n ∧ (∀ y ∈ ns, co y) ∧ Good (k + 12) s2 := by
  obtain ⟨ys, s2, e, el, py, g2⟩ := ap_lcP (te := (dIf (dTest (dOp dGt (dVar 2) (fun _ => M.ok (.int 0)))) (dOp dSub (dCallP f_law_draw (dCons (dVar 0) (dCons (dOp dAdd (dOp dMul (fun _ => M.ok (.int 2)) (dVar 2)) (fun _ => M.ok (.int 1))) (fun _ => M.ok [])))) (dVar 2)) (dCallP f_law_far (dCons (dVar 0) (fun _ => M.ok []))))) (i := 12) (vs := [12]) (ρ := ρ) (s := s) k 4 (k + 12) (fun y => ∃ i, y = .int i ∧ co i)
    (rng_n (n := n) (s' := s) (l := dCons (dVar 1) (fun _ => M.ok [])) (by walk_at "ev"; rw [h1]; walk_at "ev") (by omega)) (line1000 (by simp; omega)) g (by simp; omega) (fun d _ n' s' g' hn => by
      have h0' : ((wipeD ρ [12]).set 12 (some d))[0]? = some (some .pen) := by simpa [wipeD, List.getElem?_set] using h0
      have h2' : ((wipeD ρ [12]).set 12 (some d))[2]? = some (some (.int z)) := by simpa [wipeD, List.getElem?_set] using h2
      generalize (wipeD ρ [12]).set 12 (some d) = ρ' at h0' h2'
      walk_at "ev"
      rw [h2']
      walk_at "ev"
      by_cases hz : 0 < z
      · simp only [decide_eq_true hz]
        walk_at "evm"
        simp only [h0', h2']
        walk_at "evm"
        obtain ⟨q, s4, e4, q0, q1, g4⟩ := e_draw (m := 2 * z + 1) g' (by omega) (by omega) (by omega)
        rw [e4]
        walk_at "ev"
        exact ⟨_, s4, rfl, ⟨_, rfl, by omega, by omega⟩, g4.mono (by omega)⟩
      · simp only [decide_eq_false hz]
        obtain ⟨q, s4, e4, q0, q1, g4⟩ := e_far g' (by omega)
        walk_at "ev"
        simp only [h0']
        walk_at "ev"
        rw [e4]
        exact ⟨_, s4, rfl, ⟨_, rfl, q0, q1⟩, g4⟩)
  obtain ⟨ns, rfl, hn⟩ := ints_of ys py
  exact ⟨ns, s2, e, by simpa using el, hn, g2.mono (by simp; omega)⟩
theorem e_same' {L : List Int} {N M : List D} {s : PenS} (hN : N = L.map .int) (hl : L.length ≤ 1000) (h : N = M) : f_law_same [.tup N, .lst M] s = .ok (.bl true) s := by
  subst hN
  exact e_same hl h
theorem ne_ints' {L : List Int} {N : List D} {s : PenS} (hN : N = L.map .int) : dNe (.tup N) (.tup N) s = .ok (.bl false) s := by
  subst hN
  exact ne_ints L s
theorem e_num1 {k : Nat} {s : PenS} (g : Good k s) (hk : k + 100 ≤ LIM) : ∃ s', f_law_numbers_right [.pen, .int 1] s = .ok (.bl true) s' ∧ Good (k + 100) s' := by
  unfold f_law_numbers_right m_law_numbers_right
  walk_at "evd"
  simp only [p6]
  walk_at "evd"
  obtain ⟨d, s1, e1, hd, g1⟩ := e_pick (ds := [.int 3, .int 1000000, .int 0]) g (by omega) (List.cons_ne_nil _ _) (by simp)
  rw [e1]
  obtain ⟨q, rfl, q0, q1⟩ : ∃ z, d = .int z ∧ 0 ≤ z ∧ z ≤ 1000000 := by
    rcases List.mem_cons.mp hd with rfl | hd
    · exact ⟨_, rfl, by omega, by omega⟩
    rcases List.mem_cons.mp hd with rfl | hd
    · exact ⟨_, rfl, by omega, by omega⟩
    cases List.mem_singleton.mp hd
    exact ⟨_, rfl, by omega, by omega⟩
  walk_at "ev"
  obtain ⟨P, s2, e2, lP, cP, g2⟩ := e_coords (n := 1) (ρ := [some .pen, some (.int 1), some (.int q), none, none, none, none, none, none, none, none, none, none, none, none]) (by omega) q0 q1 g1 (by omega) rfl rfl rfl
  rw [e2]
  walk_at "ev"
  obtain ⟨R', s3, e3, lR, cR, g3⟩ := e_coords (n := 1) (ρ := [some .pen, some (.int 1), some (.int q), some (.tup (P.map .int)), none, none, none, none, none, none, none, none, none, none, none]) (by omega) q0 q1 g2 (by omega) rfl rfl rfl
  rw [e3]
  walk_at "ev"
  match P, lP, R', lR with
  | [a], _, [x], _ =>
  have ha : co a := cP a (by simp)
  have hx : co x := cR x (by simp)
  have eP := fun s => e_line (p := [a]) (q := [x]) (s := s) (by simp) (by simp) rfl cP cR (line1 s ha hx)
  have eR := fun s => e_line (p := [x]) (q := [a]) (s := s) (by simp) (by simp) rfl cR cP (line1 s hx ha)
  simp only [List.map_cons, List.map_nil] at eP eR
  have us := units_1 s3
  have ls := fun (m1 : Int) s => lsp1L (m1 := m1) s ha
  obtain ⟨ha0, ha1⟩ := ha
  obtain ⟨hx0, hx1⟩ := hx
  walk_at "evm"
  simp only [us]
  iterate 2 (walk_at "evm"; try simp only [ls])
  walk_at "evm"
  simp only [eP]
  walk_at "evm"
  rw [e_same' (L := [(x - a)])]
  rotate_left
  · rfl
  · simp
  · walk_at "poly"
  walk_at "evm"
  simp only [eR]
  walk_at "evm"
  rw [e_same' (L := [(a - x)])]
  rotate_left
  · rfl
  · simp
  · walk_at "poly"
  walk_at "evm"
  obtain ⟨m1, s4, f1, n1, p1, g4⟩ := e_number g3 (by omega)
  rw [f1]
  walk_at "evm"
  have sp1 := fun s => speed1 (m1 := m1) s ⟨ha0, ha1⟩
  have sp2 := fun s => speed1 (m1 := m1) s ⟨hx0, hx1⟩
  have lt := fun s => lsp1T (m1 := m1) s ⟨ha0, ha1⟩
  simp only [sp1]
  walk_at "evm"
  simp only [lt]
  walk_at "evm"
  rw [e_same' (L := [m1])]
  rotate_left
  · rfl
  · simp
  · rfl
  walk_at "evm"
  simp only [sp1]
  walk_at "evm"
  rw [ne_ints' (L := [m1])]
  rotate_left
  · rfl
  walk_at "evm"
  simp only [sp1]
  walk_at "evm"
  simp only [sp2]
  walk_at "evm"
  refine ⟨s4, ?_, g4.mono (by omega)⟩
  simp only [R.ok.injEq, D.bl.injEq, decide_eq_true_eq, and_true]
  walk_at "poly"
theorem e_num2 {k : Nat} {s : PenS} (g : Good k s) (hk : k + 100 ≤ LIM) : ∃ s', f_law_numbers_right [.pen, .int 2] s = .ok (.bl true) s' ∧ Good (k + 100) s' := by
  unfold f_law_numbers_right m_law_numbers_right
  walk_at "evd"
  simp only [p6]
  walk_at "evd"
  obtain ⟨d, s1, e1, hd, g1⟩ := e_pick (ds := [.int 3, .int 1000000, .int 0]) g (by omega) (List.cons_ne_nil _ _) (by simp)
  rw [e1]
  obtain ⟨q, rfl, q0, q1⟩ : ∃ z, d = .int z ∧ 0 ≤ z ∧ z ≤ 1000000 := by
    rcases List.mem_cons.mp hd with rfl | hd
    · exact ⟨_, rfl, by omega, by omega⟩
    rcases List.mem_cons.mp hd with rfl | hd
    · exact ⟨_, rfl, by omega, by omega⟩
    cases List.mem_singleton.mp hd
    exact ⟨_, rfl, by omega, by omega⟩
  walk_at "ev"
  obtain ⟨P, s2, e2, lP, cP, g2⟩ := e_coords (n := 2) (ρ := [some .pen, some (.int 2), some (.int q), none, none, none, none, none, none, none, none, none, none, none, none]) (by omega) q0 q1 g1 (by omega) rfl rfl rfl
  rw [e2]
  walk_at "ev"
  obtain ⟨R', s3, e3, lR, cR, g3⟩ := e_coords (n := 2) (ρ := [some .pen, some (.int 2), some (.int q), some (.tup (P.map .int)), none, none, none, none, none, none, none, none, none, none, none]) (by omega) q0 q1 g2 (by omega) rfl rfl rfl
  rw [e3]
  walk_at "ev"
  match P, lP, R', lR with
  | [a, b], _, [x, y], _ =>
  have ha : co a := cP a (by simp)
  have hb : co b := cP b (by simp)
  have hx : co x := cR x (by simp)
  have hy : co y := cR y (by simp)
  have eP := fun s => e_line (p := [a, b]) (q := [x, y]) (s := s) (by simp) (by simp) rfl cP cR (line2 s ha hb hx hy)
  have eR := fun s => e_line (p := [x, y]) (q := [a, b]) (s := s) (by simp) (by simp) rfl cR cP (line2 s hx hy ha hb)
  simp only [List.map_cons, List.map_nil] at eP eR
  have us := units_3 s3
  have ls := fun (m1 m2 m3 : Int) s => lsp2L (m1 := m1) (m2 := m2) (m3 := m3) s ha hb
  obtain ⟨ha0, ha1⟩ := ha
  obtain ⟨hb0, hb1⟩ := hb
  obtain ⟨hx0, hx1⟩ := hx
  obtain ⟨hy0, hy1⟩ := hy
  walk_at "evm"
  simp only [us]
  iterate 7 (walk_at "evm"; try simp only [ls])
  walk_at "evm"
  simp only [eP]
  walk_at "evm"
  rw [e_same' (L := [(x - a), (y - b), ((x - a) * -b + (y - b) * a)])]
  rotate_left
  · rfl
  · simp
  · walk_at "poly"
  walk_at "evm"
  simp only [eR]
  walk_at "evm"
  rw [e_same' (L := [(a - x), (b - y), ((a - x) * -y + (b - y) * x)])]
  rotate_left
  · rfl
  · simp
  · walk_at "poly"
  walk_at "evm"
  obtain ⟨m1, s4, f1, n1, p1, g4⟩ := e_number g3 (by omega)
  rw [f1]
  walk_at "evm"
  obtain ⟨m2, s5, f2, n2, p2, g5⟩ := e_number g4 (by omega)
  rw [f2]
  walk_at "evm"
  obtain ⟨m3, s6, f3, n3, p3, g6⟩ := e_number g5 (by omega)
  rw [f3]
  walk_at "evm"
  have sp1 := fun s => speed2 (m1 := m1) (m2 := m2) (m3 := m3) s ⟨ha0, ha1⟩ ⟨hb0, hb1⟩
  have sp2 := fun s => speed2 (m1 := m1) (m2 := m2) (m3 := m3) s ⟨hx0, hx1⟩ ⟨hy0, hy1⟩
  have lt := fun s => lsp2T (m1 := m1) (m2 := m2) (m3 := m3) s ⟨ha0, ha1⟩ ⟨hb0, hb1⟩
  simp only [sp1]
  walk_at "evm"
  simp only [lt]
  walk_at "evm"
  rw [e_same' (L := [(m1 - m3 * b), (m2 + m3 * a)])]
  rotate_left
  · rfl
  · simp
  · rfl
  walk_at "evm"
  simp only [sp1]
  walk_at "evm"
  rw [ne_ints' (L := [(m1 - m3 * b), (m2 + m3 * a)])]
  rotate_left
  · rfl
  walk_at "evm"
  simp only [sp1]
  walk_at "evm"
  simp only [sp2]
  walk_at "evm"
  refine ⟨s6, ?_, g6.mono (by omega)⟩
  simp only [R.ok.injEq, D.bl.injEq, decide_eq_true_eq, and_true]
  walk_at "poly"
theorem e_num3 {k : Nat} {s : PenS} (g : Good k s) (hk : k + 100 ≤ LIM) : ∃ s', f_law_numbers_right [.pen, .int 3] s = .ok (.bl true) s' ∧ Good (k + 100) s' := by
  unfold f_law_numbers_right m_law_numbers_right
  walk_at "evd"
  simp only [p6]
  walk_at "evd"
  obtain ⟨d, s1, e1, hd, g1⟩ := e_pick (ds := [.int 3, .int 1000000, .int 0]) g (by omega) (List.cons_ne_nil _ _) (by simp)
  rw [e1]
  obtain ⟨q, rfl, q0, q1⟩ : ∃ z, d = .int z ∧ 0 ≤ z ∧ z ≤ 1000000 := by
    rcases List.mem_cons.mp hd with rfl | hd
    · exact ⟨_, rfl, by omega, by omega⟩
    rcases List.mem_cons.mp hd with rfl | hd
    · exact ⟨_, rfl, by omega, by omega⟩
    cases List.mem_singleton.mp hd
    exact ⟨_, rfl, by omega, by omega⟩
  walk_at "ev"
  obtain ⟨P, s2, e2, lP, cP, g2⟩ := e_coords (n := 3) (ρ := [some .pen, some (.int 3), some (.int q), none, none, none, none, none, none, none, none, none, none, none, none]) (by omega) q0 q1 g1 (by omega) rfl rfl rfl
  rw [e2]
  walk_at "ev"
  obtain ⟨R', s3, e3, lR, cR, g3⟩ := e_coords (n := 3) (ρ := [some .pen, some (.int 3), some (.int q), some (.tup (P.map .int)), none, none, none, none, none, none, none, none, none, none, none]) (by omega) q0 q1 g2 (by omega) rfl rfl rfl
  rw [e3]
  walk_at "ev"
  match P, lP, R', lR with
  | [a, b, c], _, [x, y, z], _ =>
  have ha : co a := cP a (by simp)
  have hb : co b := cP b (by simp)
  have hc : co c := cP c (by simp)
  have hx : co x := cR x (by simp)
  have hy : co y := cR y (by simp)
  have hz : co z := cR z (by simp)
  have eP := fun s => e_line (p := [a, b, c]) (q := [x, y, z]) (s := s) (by simp) (by simp) rfl cP cR (line3 s ha hb hc hx hy hz)
  have eR := fun s => e_line (p := [x, y, z]) (q := [a, b, c]) (s := s) (by simp) (by simp) rfl cR cP (line3 s hx hy hz ha hb hc)
  simp only [List.map_cons, List.map_nil] at eP eR
  have us := units_6 s3
  have ls := fun (m1 m2 m3 m4 m5 m6 : Int) s => lsp3L (m1 := m1) (m2 := m2) (m3 := m3) (m4 := m4) (m5 := m5) (m6 := m6) s ha hb hc
  obtain ⟨ha0, ha1⟩ := ha
  obtain ⟨hb0, hb1⟩ := hb
  obtain ⟨hc0, hc1⟩ := hc
  obtain ⟨hx0, hx1⟩ := hx
  obtain ⟨hy0, hy1⟩ := hy
  obtain ⟨hz0, hz1⟩ := hz
  walk_at "evm"
  simp only [us]
  iterate 19 (walk_at "evm"; try simp only [ls])
  walk_at "evm"
  simp only [eP]
  walk_at "evm"
  rw [e_same' (L := [(x - a), (y - b), (z - c), ((y - b) * -c + (z - c) * b), ((x - a) * c + (z - c) * -a), ((x - a) * -b + (y - b) * a)])]
  rotate_left
  · rfl
  · simp
  · walk_at "poly"
  walk_at "evm"
  simp only [eR]
  walk_at "evm"
  rw [e_same' (L := [(a - x), (b - y), (c - z), ((b - y) * -z + (c - z) * y), ((a - x) * z + (c - z) * -x), ((a - x) * -y + (b - y) * x)])]
  rotate_left
  · rfl
  · simp
  · walk_at "poly"
  walk_at "evm"
  obtain ⟨m1, s4, f1, n1, p1, g4⟩ := e_number g3 (by omega)
  rw [f1]
  walk_at "evm"
  obtain ⟨m2, s5, f2, n2, p2, g5⟩ := e_number g4 (by omega)
  rw [f2]
  walk_at "evm"
  obtain ⟨m3, s6, f3, n3, p3, g6⟩ := e_number g5 (by omega)
  rw [f3]
  walk_at "evm"
  obtain ⟨m4, s7, f4, n4, p4, g7⟩ := e_number g6 (by omega)
  rw [f4]
  walk_at "evm"
  obtain ⟨m5, s8, f5, n5, p5, g8⟩ := e_number g7 (by omega)
  rw [f5]
  walk_at "evm"
  obtain ⟨m6, s9, f6, n6, p6, g9⟩ := e_number g8 (by omega)
  rw [f6]
  walk_at "evm"
  have sp1 := fun s => speed3 (m1 := m1) (m2 := m2) (m3 := m3) (m4 := m4) (m5 := m5) (m6 := m6) s ⟨ha0, ha1⟩ ⟨hb0, hb1⟩ ⟨hc0, hc1⟩
  have sp2 := fun s => speed3 (m1 := m1) (m2 := m2) (m3 := m3) (m4 := m4) (m5 := m5) (m6 := m6) s ⟨hx0, hx1⟩ ⟨hy0, hy1⟩ ⟨hz0, hz1⟩
  have lt := fun s => lsp3T (m1 := m1) (m2 := m2) (m3 := m3) (m4 := m4) (m5 := m5) (m6 := m6) s ⟨ha0, ha1⟩ ⟨hb0, hb1⟩ ⟨hc0, hc1⟩
  simp only [sp1]
  walk_at "evm"
  simp only [lt]
  walk_at "evm"
  rw [e_same' (L := [(m1 + m5 * c - m6 * b), (m2 + m6 * a - m4 * c), (m3 + m4 * b - m5 * a)])]
  rotate_left
  · rfl
  · simp
  · rfl
  walk_at "evm"
  simp only [sp1]
  walk_at "evm"
  rw [ne_ints' (L := [(m1 + m5 * c - m6 * b), (m2 + m6 * a - m4 * c), (m3 + m4 * b - m5 * a)])]
  rotate_left
  · rfl
  walk_at "evm"
  simp only [sp1]
  walk_at "evm"
  simp only [sp2]
  walk_at "evm"
  refine ⟨s9, ?_, g9.mono (by omega)⟩
  simp only [R.ok.injEq, D.bl.injEq, decide_eq_true_eq, and_true]
  walk_at "poly"
theorem e_numbers {k n : Nat} {s : PenS} (h1 : 1 ≤ n) (h3 : n ≤ 3) (g : Good k s) (hk : k + 100 ≤ LIM) : ∃ s', f_law_numbers_right [.pen, .int n] s = .ok (.bl true) s' ∧ Good (k + 100) s' := by
  have e : n = 1 ∨ n = 2 ∨ n = 3 := by omega
  rcases e with rfl | rfl | rfl
  · exact e_num1 g hk
  · exact e_num2 g hk
  · exact e_num3 g hk

def anyB : D → Bool
  | .tup ds => (decide (1 ≤ ds.length) && decide (ds.length ≤ 3)) && ptB ds.length (.tup ds)
  | _ => false
theorem e_any {m : Nat} {d : D} {s : PenS} (hd : vf (m + 1) d) : f_has_any_point_form [d] s = .ok (.bl (anyB d)) s := by
  unfold f_has_any_point_form m_has_any_point_form
  walk_at "ev"
  cases d <;> first
    | rfl
    | exact hd.elim
    | skip
  rename_i ds
  walk_at "ev"
  have e : anyB (.tup ds) = ((decide (1 ≤ ds.length) && decide (ds.length ≤ 3)) && ptB ds.length (.tup ds)) := rfl
  rw [e]
  by_cases h1 : 1 ≤ ds.length
  · have z1 : decide ((1 : Int) ≤ (ds.length : Nat)) = true := decide_eq_true (by omega)
    simp only [z1, decide_eq_true h1]
    walk_at "ev"
    by_cases h2 : ds.length ≤ 3
    · have z2 : decide (((ds.length : Nat) : Int) ≤ 3) = true := decide_eq_true (by omega)
      simp only [z2, decide_eq_true h2]
      walk_at "ev"
      rw [e_has_point_form hd]
    · have z2 : decide (((ds.length : Nat) : Int) ≤ 3) = false := decide_eq_false (by omega)
      simp only [z2, decide_eq_false h2]
      walk_at "ev"
  · have z1 : decide ((1 : Int) ≤ (ds.length : Nat)) = false := decide_eq_false (by omega)
    simp only [z1, decide_eq_false h1]
    walk_at "ev"
theorem er_line1 {m : Nat} {d x : D} (hd : vf (m + 1) d) (h : anyB d = false) (s : PenS) : f_line [d, x] s = .er "BadNumber" ["part"] [.str "one"] s := by
  unfold f_line m_line
  walk_at "ev"
  rw [e_any hd, h]
  walk_at "ev"
theorem er_line2 {m : Nat} {p : List D} {x : D} (hp : vf (m + 1) (.tup p)) (ha : anyB (.tup p) = true) (hx : vf (m + 1) x) (h : ptB p.length x = false) (s : PenS) : f_line [.tup p, x] s = .er "BadNumber" ["part"] [.str "other"] s := by
  unfold f_line m_line
  walk_at "ev"
  rw [e_any hp, ha]
  walk_at "ev"
  rw [e_has_point_form hx, h]
  walk_at "ev"
def motB : D → Bool
  | .tup ds => (decide (ds.length = 1) || (decide (ds.length = 3) || decide (ds.length = 6))) && ds.all intB
  | _ => false
theorem e_smallB {m : Nat} {ds : List D} {s : PenS} (hd : vf (m + 1) (.tup ds)) : f_is_small_motion [.int (ds.length : Nat), .tup ds] s = .ok (.bl (ds.all intB)) s := by
  unfold f_is_small_motion m_is_small_motion
  walk_at "ev"
  rw [ap_lc (ds := ds) (fun d => .bl (intB d)) (by walk_at "ev") (line1000 hd.1) (fun x hx => by
    walk_at "ev"
    rw [e_is_integer (vf_kd (hd.2 x hx))])]
  walk_at "ev"
  try simp only [eq_self, decide_true]
  walk_at "ev"
  rw [ap_all _ intB]
theorem kg_none {i : Nat} (h1 : i ≠ 1) (h3 : i ≠ 3) (h6 : i ≠ 6) : kgI [(1, .int 1), (3, .int 2), (6, .int 3)] (i : Int) = none := by
  unfold kgI
  rw [if_neg (by omega)]
  unfold kgI
  rw [if_neg (by omega)]
  unfold kgI
  rw [if_neg (by omega)]
  rfl
theorem er_speed1 {m : Nat} {d x : D} (hd : vf (m + 1) d) (h : motB d = false) (s : PenS) : f_speed [d, x] s = .er "BadNumber" ["part"] [.str "motion"] s := by
  unfold f_speed m_speed
  walk_at "ev"
  cases d <;> first
    | rfl
    | exact hd.elim
    | skip
  rename_i ds
  have h : ((decide (ds.length = 1) || (decide (ds.length = 3) || decide (ds.length = 6))) && ds.all intB) = false := h
  walk_at "ev"
  simp only [ap_inI]
  walk_at "ev"
  by_cases hk : ds.length = 1 ∨ ds.length = 3 ∨ ds.length = 6
  · obtain ⟨q, hs⟩ : ∃ q, kgI [(1, .int 1), (3, .int 2), (6, .int 3)] ((ds.length : Nat) : Int) = some q := by
      rcases hk with e | e | e <;> rw [e] <;> exact ⟨_, rfl⟩
    have ha : ds.all intB = false := by
      rcases hk with e | e | e <;> simpa [e] using h
    simp only [hs, ng, Option.isSome_some, Bool.not_true]
    walk_at "ev"
    rw [e_smallB hd, ha]
    walk_at "ev"
  · have hs := kg_none (fun e => hk (.inl e)) (fun e => hk (.inr (.inl e))) (fun e => hk (.inr (.inr e)))
    simp only [hs, ng, Option.isSome_none, Bool.not_false]
    walk_at "ev"
def dimOf : Nat → Int
  | 1 => 1
  | 3 => 2
  | _ => 3
theorem er_speed2 {m k : Nat} {ds : List D} {x : D} (hd : vf (m + 1) (.tup ds)) (hk : (ds.length = 1 ∧ k = 1) ∨ (ds.length = 3 ∧ k = 2) ∨ (ds.length = 6 ∧ k = 3)) (ha : ds.all intB = true) (hx : vf (m + 1) x) (h : ptB k x = false) (s : PenS) : f_speed [.tup ds, x] s = .er "BadNumber" ["part"] [.str "point"] s := by
  have hg : kgI [(1, .int 1), (3, .int 2), (6, .int 3)] ((ds.length : Nat) : Int) = some (.int (k : Nat)) := by
    rcases hk with ⟨e, e2⟩ | ⟨e, e2⟩ | ⟨e, e2⟩ <;> rw [e, e2] <;> rfl
  unfold f_speed m_speed
  walk_at "ev"
  simp only [ap_inI]
  walk_at "ev"
  simp only [hg, ng, Option.isSome_some, Bool.not_true]
  walk_at "ev"
  rw [e_smallB hd, ha]
  walk_at "ev"
  simp only [ap_ixI]
  walk_at "ev"
  simp only [hg]
  walk_at "ev"
  rw [show ofPy (PyData.int (k : Nat)) = D.int (k : Nat) from rfl]
  rw [e_has_point_form hx, h]
  walk_at "ev"
theorem er_need {d : D} (hd : kdD d ≠ none) (h : wiD 1 3 d = false) (s : PenS) : f_need_dimension [d] s = .er "BadDimension" ["value"] [d] s := by
  unfold f_need_dimension m_need_dimension
  walk_at "ev"
  rw [e_is_within hd, h]
  walk_at "ev"
theorem er_point {d x : D} (hd : kdD d ≠ none) (h : wiD 1 3 d = false) (s : PenS) : f_is_point [d, x] s = .er "BadDimension" ["value"] [d] s := by
  unfold f_is_point m_is_point
  walk_at "ev"
  rw [er_need hd h]
theorem er_spot {d x y : D} (hd : kdD d ≠ none) (h : wiD 1 3 d = false) (s : PenS) : f_is_spot [d, x, y] s = .er "BadDimension" ["value"] [d] s := by
  unfold f_is_spot m_is_spot
  walk_at "ev"
  rw [er_need hd h]
def KindD : List D := [.str "Rod", .str "", .non, .int 5, .str "rods", .tup [.str "rod"], .str "hinge."]
theorem er_kind {n : Nat} {d y : D} (h1 : 1 ≤ n) (h3 : n ≤ 3) (hd : d ∈ KindD) (s : PenS) : f_is_spot [.int n, d, y] s = .er "BadName" ["value"] [d] s := by
  have e : n = 1 ∨ n = 2 ∨ n = 3 := by omega
  rcases e with rfl | rfl | rfl <;>
  · rcases List.mem_cons.mp hd with rfl | hd
    · kernel_rfl
    rcases List.mem_cons.mp hd with rfl | hd
    · kernel_rfl
    rcases List.mem_cons.mp hd with rfl | hd
    · kernel_rfl
    rcases List.mem_cons.mp hd with rfl | hd
    · kernel_rfl
    rcases List.mem_cons.mp hd with rfl | hd
    · kernel_rfl
    rcases List.mem_cons.mp hd with rfl | hd
    · kernel_rfl
    cases List.mem_singleton.mp hd
    kernel_rfl
theorem hmN (d : D) (s : PenS) : hm_law_heard (.er "BadNumber" ["part"] [d] s) = .ok (.tup [.str "BadNumber", d]) s := by kernel_rfl
theorem hmD (d : D) (s : PenS) : hm_law_heard (.er "BadDimension" ["value"] [d] s) = .ok (.tup [.str "BadDimension", d]) s := by kernel_rfl
theorem hmK (d : D) (s : PenS) : hm_law_heard (.er "BadName" ["value"] [d] s) = .ok (.tup [.str "BadName", d]) s := by kernel_rfl

def vfB : Nat → D → Bool
  | 0, d => match d with
    | .pen => false
    | .lst ds => ds.isEmpty
    | .tup ds => ds.isEmpty
    | .dct ks _ => ks.isEmpty
    | _ => true
  | n + 1, d => match d with
    | .pen => false
    | .lst ds => Nat.ble ds.length 1000 && ds.all (vfB n)
    | .tup ds => Nat.ble ds.length 1000 && ds.all (vfB n)
    | _ => true
theorem vfB_ok : ∀ {n : Nat} {d : D}, vfB n d = true → vf n d
  | 0, d, h => by
    cases d with
    | pen => cases h
    | lst ds => exact List.isEmpty_iff.mp h
    | tup ds => exact List.isEmpty_iff.mp h
    | dct ks vs => exact List.isEmpty_iff.mp h
    | _ => trivial
  | n + 1, d, h => by
    cases d with
    | pen => cases h
    | lst ds =>
      obtain ⟨h1, h2⟩ := Bool.and_eq_true_iff.mp (show (Nat.ble ds.length 1000 && ds.all (vfB n)) = true from h)
      exact ⟨Nat.le_of_ble_eq_true h1, fun x hx => vfB_ok (List.all_eq_true.mp h2 x hx)⟩
    | tup ds =>
      obtain ⟨h1, h2⟩ := Bool.and_eq_true_iff.mp (show (Nat.ble ds.length 1000 && ds.all (vfB n)) = true from h)
      exact ⟨Nat.le_of_ble_eq_true h1, fun x hx => vfB_ok (List.all_eq_true.mp h2 x hx)⟩
    | _ => trivial
theorem e_pickP {n : Nat} {ds : List D} {s : PenS} {P : D → Prop} (hP : ∀ d ∈ ds, P d) (g : Good n s) (hn : n + 1 ≤ LIM) (h0 : ds ≠ []) (h1 : ds.length ≤ 1000) : ∃ d s', f_law_pick [.pen, .lst ds] s = .ok d s' ∧ P d ∧ Good (n + 1) s' := by
  obtain ⟨d, s', e, hd, g'⟩ := e_pick g hn h0 h1
  exact ⟨d, s', e, hP d hd, g'⟩
def Dat (d : D) : Prop := ∃ q, toPy d = some q ∧ q.canLay0 = true ∧ q.depth ≤ 5
def farP (d : D) : Prop := kdD d ≠ none ∧ wiD 1 3 d = false ∧ Dat d
theorem ne_self {d : D} {q : PyData} (h : toPy d = some q) (sh : SeqAt.shaped q = true) (n : scalD d d = false) (s : PenS) : dNe d d s = .ok (.bl false) s := by
  unfold dNe dEqG eqP
  rw [n, h]
  simp only [sh, Bool.and_true, chk, M.ok, ng]
  rw [SeqAt.eqv_refl q (SeqAt.canLay_of_shaped sh)]
  rfl
theorem ne_heard {f k : D} (hf : Dat f) (hk : Dat k) (s : PenS) : dNe (.lst [.tup [.str "BadDimension", f], .tup [.str "BadDimension", f], .tup [.str "BadName", k]]) (.lst [.tup [.str "BadDimension", f], .tup [.str "BadDimension", f], .tup [.str "BadName", k]]) s = .ok (.bl false) s := by
  obtain ⟨qf, f1, f2, f3⟩ := hf
  obtain ⟨qk, k1, k2, k3⟩ := hk
  refine ne_self (q := .list [.tuple [.str "BadDimension", qf], .tuple [.str "BadDimension", qf], .tuple [.str "BadName", qk]]) ?_ ?_ rfl s
  · simp [toPy, toPyA, f1, k1]
  · unfold SeqAt.shaped
    simp [PyData.canLay0, PyData.canLayAll0, PyData.depth, PyData.depthAll, f2, k2]
    exact ⟨⟨by decide +kernel, by decide +kernel⟩, by omega⟩
theorem kind_dat : ∀ d ∈ KindD, Dat d := by
  intro d hd
  simp only [KindD, List.mem_cons, List.not_mem_nil, or_false] at hd
  rcases hd with rfl | rfl | rfl | rfl | rfl | rfl | rfl <;> exact ⟨_, rfl, by decide +kernel, by decide +kernel⟩
theorem dup2 (X : D) (s : PenS) : dMul (.lst [X]) (.int 2) s = .ok (.lst [X, X]) s := id rfl
theorem z42 (s : PenS) : dMul (.tup [.int 0]) (.int 4) s = .ok (.tup [.int 0, .int 0, .int 0, .int 0]) s := id rfl
theorem z22 (s : PenS) : dMul (.tup [.int 0]) (.int 2) s = .ok (.tup [.int 0, .int 0]) s := id rfl
theorem neN1 (s : PenS) : dNe (.lst [.tup [.str "BadNumber", .str "one"], .tup [.str "BadNumber", .str "one"], .tup [.str "BadNumber", .str "other"]]) (.lst [.tup [.str "BadNumber", .str "one"], .tup [.str "BadNumber", .str "one"], .tup [.str "BadNumber", .str "other"]]) s = .ok (.bl false) s := by kernel_rfl
theorem neN2 (s : PenS) : dNe (.lst [.tup [.str "BadNumber", .str "motion"], .tup [.str "BadNumber", .str "motion"], .tup [.str "BadNumber", .str "point"]]) (.lst [.tup [.str "BadNumber", .str "motion"], .tup [.str "BadNumber", .str "motion"], .tup [.str "BadNumber", .str "point"]]) s = .ok (.bl false) s := by kernel_rfl
theorem spot1 (s : PenS) : f_is_spot [.int 1, .str "hinge", .tup []] s = .er "BadName" ["value"] [.str "hinge"] s := by kernel_rfl
theorem eqH (s : PenS) : dEq (.tup [.str "BadName", .str "hinge"]) (.tup [.str "BadName", .str "hinge"]) s = .ok (.bl true) s := by kernel_rfl
theorem spot2 (s : PenS) : f_is_spot [.int 2, .str "hinge", .tup []] s = .ok (.bl false) s := by kernel_rfl
theorem hmO (d : D) (s : PenS) : hm_law_heard (.ok d s) = .ok .non s := id rfl
theorem isN (s : PenS) : dIs false .non .non s = .ok (.bl true) s := id rfl
theorem p30 (s : PenS) : dPow (.int 10) (.int 30) s = .ok (.int 1000000000000000000000000000000) s := by kernel_rfl
theorem e_ref1 {k : Nat} {s : PenS} (g : Good k s) (hk : k + 100 ≤ LIM) : ∃ s', f_law_refused [.pen, .int 1] s = .ok (.bl true) s' ∧ Good (k + 100) s' := by
  unfold f_law_refused m_law_refused
  walk_at "evm"
  obtain ⟨qa, s1, e1, qa0, qa1, g1⟩ := e_draw (m := 9) g (by omega) (by omega) (by omega)
  rw [e1]
  walk_at "evm"
  have ha : co (qa - 4) := ⟨by omega, by omega⟩
  generalize qa - 4 = a at ha ⊢
  have em : ∀ s, dMul (.tup [.int a]) (.int 4) s = .ok (.tup [.int a, .int a, .int a, .int a]) s := fun s => rfl
  have c1 : cutD [.int a] (some 1) none = [] := rfl
  have c2 : cutD [.int a] none (some (-1)) = [] := rfl
  try simp only [em, p12, c1, c2]
  walk_at "evm"
  try simp only [em, p12, c1, c2]
  walk_at "evm"
  generalize hX : f_law_pick _ s1 = X
  obtain ⟨bad, tbad, eX, ⟨vb, nb⟩, gb⟩ : ∃ d s', X = .ok d s' ∧ (vf 3 d ∧ anyB d = false) ∧ Good (k + 1 + 1) s' := by
    rw [← hX]
    refine e_pickP ?_ g1 (by omega) (List.cons_ne_nil _ _) (by simp)
    intro d hd
    simp only [List.mem_cons, List.not_mem_nil, or_false] at hd
    rcases hd with rfl | rfl | rfl | rfl | rfl | rfl | rfl | rfl | rfl <;> exact ⟨vfB_ok rfl, by first | rfl | (simp [anyB, ptB, coB, wiD]; done) | (simp [anyB, ptB, coB, wiD]; intros; decide)⟩
  clear hX
  subst eX
  walk_at "evm"
  try simp only [em, p12, c1, c2]
  walk_at "evm"
  try simp only [em, p12, c1, c2]
  walk_at "evm"
  generalize hX : f_law_pick _ tbad = X
  obtain ⟨bent, tbent, eX, ⟨vn, nn⟩, gn⟩ : ∃ d s', X = .ok d s' ∧ (vf 3 d ∧ ptB 1 d = false) ∧ Good (k + 1 + 1 + 1) s' := by
    rw [← hX]
    refine e_pickP ?_ gb (by omega) (List.cons_ne_nil _ _) (by simp)
    intro d hd
    simp only [List.mem_cons, List.not_mem_nil, or_false] at hd
    rcases hd with rfl | rfl | rfl | rfl | rfl | rfl <;> exact ⟨vfB_ok rfl, by first | rfl | (simp [ptB, coB, wiD]; done) | (simp [ptB, coB, wiD]; intros; decide)⟩
  clear hX
  subst eX
  walk_at "evm"
  obtain ⟨m1, u1, f1, n1, p1, h1⟩ := e_number gn (by omega)
  rw [f1]
  walk_at "evm"
  have c3 : cutD [.int m1] none (some (-1)) = [] := rfl
  try simp only [c3, z42, z22]
  walk_at "evm"
  try simp only [c3, z42, z22]
  walk_at "evm"
  generalize hX : f_law_pick _ u1 = X
  obtain ⟨wrong, twrong, eX, ⟨vw, nw⟩, gw⟩ : ∃ d s', X = .ok d s' ∧ (vf 3 d ∧ motB d = false) ∧ Good (k + 1 + 1 + 1 + 9 + 1) s' := by
    rw [← hX]
    refine e_pickP ?_ h1 (by omega) (List.cons_ne_nil _ _) (by simp)
    intro d hd
    simp only [List.mem_cons, List.not_mem_nil, or_false] at hd
    rcases hd with rfl | rfl | rfl | rfl | rfl | rfl | rfl | rfl | rfl <;> exact ⟨vfB_ok rfl, by first | rfl | (simp [motB, intB]; done)⟩
  clear hX
  subst eX
  have vP : vf 3 (.tup [.int a]) := vfB_ok rfl
  have aP : anyB (.tup [.int a]) = true := by
    show (true && (true && ([D.int a].all coB))) = true
    simp [co_coB ha]
  have vM : vf 3 (.tup [.int m1]) := vfB_ok rfl
  have l1 := fun x s => er_line1 (x := x) vb nb s
  have l2 := fun s => er_line2 (p := [.int a]) (x := bent) vP aP vn nn s
  have l3 := fun x s => er_speed1 (x := x) vw nw s
  have l4 := fun s => er_speed2 (k := 1) (ds := [.int m1]) vM (by simp) rfl vn nn s
  iterate 9 (walk_at "evm"; try simp only [l1, l2, l3, l4, hmN, dup2, neN1, neN2])
  walk_at "evm"
  try simp only [p30]
  walk_at "evm"
  generalize hX : f_law_pick _ twrong = X
  obtain ⟨far, tfar, eX, hfar, gf⟩ : ∃ d s', X = .ok d s' ∧ (farP d) ∧ Good (k + 1 + 1 + 1 + 9 + 1 + 1) s' := by
    rw [← hX]
    refine e_pickP ?_ gw (by omega) (List.cons_ne_nil _ _) (by simp)
    intro d hd
    simp only [List.mem_cons, List.not_mem_nil, or_false] at hd
    rcases hd with rfl | rfl | rfl | rfl | rfl | rfl | rfl | rfl <;> exact ⟨(by intro z; cases z), rfl, _, rfl, (by decide +kernel), (by decide +kernel)⟩
  clear hX
  subst eX
  walk_at "evm"
  generalize hX : f_law_pick _ tfar = X
  obtain ⟨kind, tkind, eX, hkind, gk⟩ : ∃ d s', X = .ok d s' ∧ (d ∈ KindD) ∧ Good (k + 1 + 1 + 1 + 9 + 1 + 1 + 1) s' := by
    rw [← hX]
    refine e_pickP ?_ gf (by omega) (List.cons_ne_nil _ _) (by simp)
    intro d hd
    simp only [List.mem_cons, List.not_mem_nil, or_false] at hd
    rcases hd with rfl | rfl | rfl | rfl | rfl | rfl | rfl <;> exact by simp [KindD]
  clear hX
  subst eX
  have r1 := fun x s => er_point (d := far) (x := x) hfar.1 hfar.2.1 s
  have r2 := fun x y s => er_spot (d := far) (x := x) (y := y) hfar.1 hfar.2.1 s
  have r3 := fun y s => er_kind (n := 1) (d := kind) (y := y) (by omega) (by omega) hkind s
  have r4 := fun s => ne_heard hfar.2.2 (kind_dat kind hkind) s
  simp only [nc1, nc2, nc3] at r3
  iterate 6 (walk_at "evm"; try simp only [r1, r2, r3, r4, hmD, hmK])
  iterate 3 (walk_at "evm"; try simp only [spot1, hmK, eqH])
  iterate 3 (walk_at "evm"; try simp only [spot2, hmO, isN])
  exact ⟨_, rfl, gk.mono (by omega)⟩
theorem e_ref2 {k : Nat} {s : PenS} (g : Good k s) (hk : k + 100 ≤ LIM) : ∃ s', f_law_refused [.pen, .int 2] s = .ok (.bl true) s' ∧ Good (k + 100) s' := by
  unfold f_law_refused m_law_refused
  walk_at "evm"
  obtain ⟨qa, s1, e1, qa0, qa1, g1⟩ := e_draw (m := 9) g (by omega) (by omega) (by omega)
  rw [e1]
  walk_at "evm"
  obtain ⟨qb, s2, e2, qb0, qb1, g2⟩ := e_draw (m := 9) g1 (by omega) (by omega) (by omega)
  rw [e2]
  walk_at "evm"
  have ha : co (qa - 4) := ⟨by omega, by omega⟩
  generalize qa - 4 = a at ha ⊢
  have hb : co (qb - 4) := ⟨by omega, by omega⟩
  generalize qb - 4 = b at hb ⊢
  have em : ∀ s, dMul (.tup [.int a, .int b]) (.int 4) s = .ok (.tup [.int a, .int b, .int a, .int b, .int a, .int b, .int a, .int b]) s := fun s => rfl
  have c1 : cutD [.int a, .int b] (some 1) none = [.int b] := rfl
  have c2 : cutD [.int a, .int b] none (some (-1)) = [.int a] := rfl
  try simp only [em, p12, c1, c2]
  walk_at "evm"
  try simp only [em, p12, c1, c2]
  walk_at "evm"
  generalize hX : f_law_pick _ s2 = X
  obtain ⟨bad, tbad, eX, ⟨vb, nb⟩, gb⟩ : ∃ d s', X = .ok d s' ∧ (vf 3 d ∧ anyB d = false) ∧ Good (k + 2 + 1) s' := by
    rw [← hX]
    refine e_pickP ?_ g2 (by omega) (List.cons_ne_nil _ _) (by simp)
    intro d hd
    simp only [List.mem_cons, List.not_mem_nil, or_false] at hd
    rcases hd with rfl | rfl | rfl | rfl | rfl | rfl | rfl | rfl | rfl <;> exact ⟨vfB_ok rfl, by first | rfl | (simp [anyB, ptB, coB, wiD]; done) | (simp [anyB, ptB, coB, wiD]; intros; decide)⟩
  clear hX
  subst eX
  walk_at "evm"
  try simp only [em, p12, c1, c2]
  walk_at "evm"
  try simp only [em, p12, c1, c2]
  walk_at "evm"
  generalize hX : f_law_pick _ tbad = X
  obtain ⟨bent, tbent, eX, ⟨vn, nn⟩, gn⟩ : ∃ d s', X = .ok d s' ∧ (vf 3 d ∧ ptB 2 d = false) ∧ Good (k + 2 + 1 + 1) s' := by
    rw [← hX]
    refine e_pickP ?_ gb (by omega) (List.cons_ne_nil _ _) (by simp)
    intro d hd
    simp only [List.mem_cons, List.not_mem_nil, or_false] at hd
    rcases hd with rfl | rfl | rfl | rfl | rfl | rfl <;> exact ⟨vfB_ok rfl, by first | rfl | (simp [ptB, coB, wiD]; done) | (simp [ptB, coB, wiD]; intros; decide)⟩
  clear hX
  subst eX
  walk_at "evm"
  obtain ⟨m1, u1, f1, n1, p1, h1⟩ := e_number gn (by omega)
  rw [f1]
  walk_at "evm"
  obtain ⟨m2, u2, f2, n2, p2, h2⟩ := e_number h1 (by omega)
  rw [f2]
  walk_at "evm"
  obtain ⟨m3, u3, f3, n3, p3, h3⟩ := e_number h2 (by omega)
  rw [f3]
  walk_at "evm"
  have c3 : cutD [.int m1, .int m2, .int m3] none (some (-1)) = [.int m1, .int m2] := rfl
  try simp only [c3, z42, z22]
  walk_at "evm"
  try simp only [c3, z42, z22]
  walk_at "evm"
  generalize hX : f_law_pick _ u3 = X
  obtain ⟨wrong, twrong, eX, ⟨vw, nw⟩, gw⟩ : ∃ d s', X = .ok d s' ∧ (vf 3 d ∧ motB d = false) ∧ Good (k + 2 + 1 + 1 + 9 + 9 + 9 + 1) s' := by
    rw [← hX]
    refine e_pickP ?_ h3 (by omega) (List.cons_ne_nil _ _) (by simp)
    intro d hd
    simp only [List.mem_cons, List.not_mem_nil, or_false] at hd
    rcases hd with rfl | rfl | rfl | rfl | rfl | rfl | rfl | rfl | rfl <;> exact ⟨vfB_ok rfl, by first | rfl | (simp [motB, intB]; done)⟩
  clear hX
  subst eX
  have vP : vf 3 (.tup [.int a, .int b]) := vfB_ok rfl
  have aP : anyB (.tup [.int a, .int b]) = true := by
    show (true && (true && ([D.int a, D.int b].all coB))) = true
    simp [co_coB ha, co_coB hb]
  have vM : vf 3 (.tup [.int m1, .int m2, .int m3]) := vfB_ok rfl
  have l1 := fun x s => er_line1 (x := x) vb nb s
  have l2 := fun s => er_line2 (p := [.int a, .int b]) (x := bent) vP aP vn nn s
  have l3 := fun x s => er_speed1 (x := x) vw nw s
  have l4 := fun s => er_speed2 (k := 2) (ds := [.int m1, .int m2, .int m3]) vM (by simp) rfl vn nn s
  iterate 9 (walk_at "evm"; try simp only [l1, l2, l3, l4, hmN, dup2, neN1, neN2])
  walk_at "evm"
  try simp only [p30]
  walk_at "evm"
  generalize hX : f_law_pick _ twrong = X
  obtain ⟨far, tfar, eX, hfar, gf⟩ : ∃ d s', X = .ok d s' ∧ (farP d) ∧ Good (k + 2 + 1 + 1 + 9 + 9 + 9 + 1 + 1) s' := by
    rw [← hX]
    refine e_pickP ?_ gw (by omega) (List.cons_ne_nil _ _) (by simp)
    intro d hd
    simp only [List.mem_cons, List.not_mem_nil, or_false] at hd
    rcases hd with rfl | rfl | rfl | rfl | rfl | rfl | rfl | rfl <;> exact ⟨(by intro z; cases z), rfl, _, rfl, (by decide +kernel), (by decide +kernel)⟩
  clear hX
  subst eX
  walk_at "evm"
  generalize hX : f_law_pick _ tfar = X
  obtain ⟨kind, tkind, eX, hkind, gk⟩ : ∃ d s', X = .ok d s' ∧ (d ∈ KindD) ∧ Good (k + 2 + 1 + 1 + 9 + 9 + 9 + 1 + 1 + 1) s' := by
    rw [← hX]
    refine e_pickP ?_ gf (by omega) (List.cons_ne_nil _ _) (by simp)
    intro d hd
    simp only [List.mem_cons, List.not_mem_nil, or_false] at hd
    rcases hd with rfl | rfl | rfl | rfl | rfl | rfl | rfl <;> exact by simp [KindD]
  clear hX
  subst eX
  have r1 := fun x s => er_point (d := far) (x := x) hfar.1 hfar.2.1 s
  have r2 := fun x y s => er_spot (d := far) (x := x) (y := y) hfar.1 hfar.2.1 s
  have r3 := fun y s => er_kind (n := 2) (d := kind) (y := y) (by omega) (by omega) hkind s
  have r4 := fun s => ne_heard hfar.2.2 (kind_dat kind hkind) s
  simp only [nc1, nc2, nc3] at r3
  iterate 6 (walk_at "evm"; try simp only [r1, r2, r3, r4, hmD, hmK])
  iterate 3 (walk_at "evm"; try simp only [spot1, hmK, eqH])
  iterate 3 (walk_at "evm"; try simp only [spot2, hmO, isN])
  exact ⟨_, rfl, gk.mono (by omega)⟩
theorem e_ref3 {k : Nat} {s : PenS} (g : Good k s) (hk : k + 100 ≤ LIM) : ∃ s', f_law_refused [.pen, .int 3] s = .ok (.bl true) s' ∧ Good (k + 100) s' := by
  unfold f_law_refused m_law_refused
  walk_at "evm"
  obtain ⟨qa, s1, e1, qa0, qa1, g1⟩ := e_draw (m := 9) g (by omega) (by omega) (by omega)
  rw [e1]
  walk_at "evm"
  obtain ⟨qb, s2, e2, qb0, qb1, g2⟩ := e_draw (m := 9) g1 (by omega) (by omega) (by omega)
  rw [e2]
  walk_at "evm"
  obtain ⟨qc, s3, e3, qc0, qc1, g3⟩ := e_draw (m := 9) g2 (by omega) (by omega) (by omega)
  rw [e3]
  walk_at "evm"
  have ha : co (qa - 4) := ⟨by omega, by omega⟩
  generalize qa - 4 = a at ha ⊢
  have hb : co (qb - 4) := ⟨by omega, by omega⟩
  generalize qb - 4 = b at hb ⊢
  have hc : co (qc - 4) := ⟨by omega, by omega⟩
  generalize qc - 4 = c at hc ⊢
  have em : ∀ s, dMul (.tup [.int a, .int b, .int c]) (.int 4) s = .ok (.tup [.int a, .int b, .int c, .int a, .int b, .int c, .int a, .int b, .int c, .int a, .int b, .int c]) s := fun s => rfl
  have c1 : cutD [.int a, .int b, .int c] (some 1) none = [.int b, .int c] := rfl
  have c2 : cutD [.int a, .int b, .int c] none (some (-1)) = [.int a, .int b] := rfl
  try simp only [em, p12, c1, c2]
  walk_at "evm"
  try simp only [em, p12, c1, c2]
  walk_at "evm"
  generalize hX : f_law_pick _ s3 = X
  obtain ⟨bad, tbad, eX, ⟨vb, nb⟩, gb⟩ : ∃ d s', X = .ok d s' ∧ (vf 3 d ∧ anyB d = false) ∧ Good (k + 3 + 1) s' := by
    rw [← hX]
    refine e_pickP ?_ g3 (by omega) (List.cons_ne_nil _ _) (by simp)
    intro d hd
    simp only [List.mem_cons, List.not_mem_nil, or_false] at hd
    rcases hd with rfl | rfl | rfl | rfl | rfl | rfl | rfl | rfl | rfl <;> exact ⟨vfB_ok rfl, by first | rfl | (simp [anyB, ptB, coB, wiD]; done) | (simp [anyB, ptB, coB, wiD]; intros; decide)⟩
  clear hX
  subst eX
  walk_at "evm"
  try simp only [em, p12, c1, c2]
  walk_at "evm"
  try simp only [em, p12, c1, c2]
  walk_at "evm"
  generalize hX : f_law_pick _ tbad = X
  obtain ⟨bent, tbent, eX, ⟨vn, nn⟩, gn⟩ : ∃ d s', X = .ok d s' ∧ (vf 3 d ∧ ptB 3 d = false) ∧ Good (k + 3 + 1 + 1) s' := by
    rw [← hX]
    refine e_pickP ?_ gb (by omega) (List.cons_ne_nil _ _) (by simp)
    intro d hd
    simp only [List.mem_cons, List.not_mem_nil, or_false] at hd
    rcases hd with rfl | rfl | rfl | rfl | rfl | rfl <;> exact ⟨vfB_ok rfl, by first | rfl | (simp [ptB, coB, wiD]; done) | (simp [ptB, coB, wiD]; intros; decide)⟩
  clear hX
  subst eX
  walk_at "evm"
  obtain ⟨m1, u1, f1, n1, p1, h1⟩ := e_number gn (by omega)
  rw [f1]
  walk_at "evm"
  obtain ⟨m2, u2, f2, n2, p2, h2⟩ := e_number h1 (by omega)
  rw [f2]
  walk_at "evm"
  obtain ⟨m3, u3, f3, n3, p3, h3⟩ := e_number h2 (by omega)
  rw [f3]
  walk_at "evm"
  obtain ⟨m4, u4, f4, n4, p4, h4⟩ := e_number h3 (by omega)
  rw [f4]
  walk_at "evm"
  obtain ⟨m5, u5, f5, n5, p5, h5⟩ := e_number h4 (by omega)
  rw [f5]
  walk_at "evm"
  obtain ⟨m6, u6, f6, n6, p6, h6⟩ := e_number h5 (by omega)
  rw [f6]
  walk_at "evm"
  have c3 : cutD [.int m1, .int m2, .int m3, .int m4, .int m5, .int m6] none (some (-1)) = [.int m1, .int m2, .int m3, .int m4, .int m5] := rfl
  try simp only [c3, z42, z22]
  walk_at "evm"
  try simp only [c3, z42, z22]
  walk_at "evm"
  generalize hX : f_law_pick _ u6 = X
  obtain ⟨wrong, twrong, eX, ⟨vw, nw⟩, gw⟩ : ∃ d s', X = .ok d s' ∧ (vf 3 d ∧ motB d = false) ∧ Good (k + 3 + 1 + 1 + 9 + 9 + 9 + 9 + 9 + 9 + 1) s' := by
    rw [← hX]
    refine e_pickP ?_ h6 (by omega) (List.cons_ne_nil _ _) (by simp)
    intro d hd
    simp only [List.mem_cons, List.not_mem_nil, or_false] at hd
    rcases hd with rfl | rfl | rfl | rfl | rfl | rfl | rfl | rfl | rfl <;> exact ⟨vfB_ok rfl, by first | rfl | (simp [motB, intB]; done)⟩
  clear hX
  subst eX
  have vP : vf 3 (.tup [.int a, .int b, .int c]) := vfB_ok rfl
  have aP : anyB (.tup [.int a, .int b, .int c]) = true := by
    show (true && (true && ([D.int a, D.int b, D.int c].all coB))) = true
    simp [co_coB ha, co_coB hb, co_coB hc]
  have vM : vf 3 (.tup [.int m1, .int m2, .int m3, .int m4, .int m5, .int m6]) := vfB_ok rfl
  have l1 := fun x s => er_line1 (x := x) vb nb s
  have l2 := fun s => er_line2 (p := [.int a, .int b, .int c]) (x := bent) vP aP vn nn s
  have l3 := fun x s => er_speed1 (x := x) vw nw s
  have l4 := fun s => er_speed2 (k := 3) (ds := [.int m1, .int m2, .int m3, .int m4, .int m5, .int m6]) vM (by simp) rfl vn nn s
  iterate 9 (walk_at "evm"; try simp only [l1, l2, l3, l4, hmN, dup2, neN1, neN2])
  walk_at "evm"
  try simp only [p30]
  walk_at "evm"
  generalize hX : f_law_pick _ twrong = X
  obtain ⟨far, tfar, eX, hfar, gf⟩ : ∃ d s', X = .ok d s' ∧ (farP d) ∧ Good (k + 3 + 1 + 1 + 9 + 9 + 9 + 9 + 9 + 9 + 1 + 1) s' := by
    rw [← hX]
    refine e_pickP ?_ gw (by omega) (List.cons_ne_nil _ _) (by simp)
    intro d hd
    simp only [List.mem_cons, List.not_mem_nil, or_false] at hd
    rcases hd with rfl | rfl | rfl | rfl | rfl | rfl | rfl | rfl <;> exact ⟨(by intro z; cases z), rfl, _, rfl, (by decide +kernel), (by decide +kernel)⟩
  clear hX
  subst eX
  walk_at "evm"
  generalize hX : f_law_pick _ tfar = X
  obtain ⟨kind, tkind, eX, hkind, gk⟩ : ∃ d s', X = .ok d s' ∧ (d ∈ KindD) ∧ Good (k + 3 + 1 + 1 + 9 + 9 + 9 + 9 + 9 + 9 + 1 + 1 + 1) s' := by
    rw [← hX]
    refine e_pickP ?_ gf (by omega) (List.cons_ne_nil _ _) (by simp)
    intro d hd
    simp only [List.mem_cons, List.not_mem_nil, or_false] at hd
    rcases hd with rfl | rfl | rfl | rfl | rfl | rfl | rfl <;> exact by simp [KindD]
  clear hX
  subst eX
  have r1 := fun x s => er_point (d := far) (x := x) hfar.1 hfar.2.1 s
  have r2 := fun x y s => er_spot (d := far) (x := x) (y := y) hfar.1 hfar.2.1 s
  have r3 := fun y s => er_kind (n := 3) (d := kind) (y := y) (by omega) (by omega) hkind s
  have r4 := fun s => ne_heard hfar.2.2 (kind_dat kind hkind) s
  simp only [nc1, nc2, nc3] at r3
  iterate 6 (walk_at "evm"; try simp only [r1, r2, r3, r4, hmD, hmK])
  iterate 3 (walk_at "evm"; try simp only [spot1, hmK, eqH])
  iterate 3 (walk_at "evm"; try simp only [spot2, hmO, isN])
  exact ⟨_, rfl, gk.mono (by omega)⟩
theorem e_refused {k n : Nat} {s : PenS} (h1 : 1 ≤ n) (h3 : n ≤ 3) (g : Good k s) (hk : k + 100 ≤ LIM) : ∃ s', f_law_refused [.pen, .int n] s = .ok (.bl true) s' ∧ Good (k + 100) s' := by
  have e : n = 1 ∨ n = 2 ∨ n = 3 := by omega
  rcases e with rfl | rfl | rfl
  · exact e_ref1 g hk
  · exact e_ref2 g hk
  · exact e_ref3 g hk

def dimBody : En → M Out := (dIfS (dTOr (dTNot (dTest (dCallP f_law_looks_right (dCons (dVar 1) (dCons (dVar 3) (fun _ => M.ok [])))))) (dTOr (dTNot (dTest (dCallP f_law_numbers_right (dCons (dVar 1) (dCons (dVar 3) (fun _ => M.ok [])))))) (dTNot (dTest (dCallP f_law_refused (dCons (dVar 1) (dCons (dVar 3) (fun _ => M.ok [])))))))) (dRet (fun _ => M.ok (.bl false))) (fun ρ => M.ok (.nx ρ)))
def turnBody : En → M Out := (dFor (dIt (dTup (dCons (fun _ => M.ok (.int 1)) (dCons (fun _ => M.ok (.int 2)) (dCons (fun _ => M.ok (.int 3)) (fun _ => M.ok [])))))) (dName 3) (dIfS (dTOr (dTNot (dTest (dCallP f_law_looks_right (dCons (dVar 1) (dCons (dVar 3) (fun _ => M.ok [])))))) (dTOr (dTNot (dTest (dCallP f_law_numbers_right (dCons (dVar 1) (dCons (dVar 3) (fun _ => M.ok [])))))) (dTNot (dTest (dCallP f_law_refused (dCons (dVar 1) (dCons (dVar 3) (fun _ => M.ok [])))))))) (dRet (fun _ => M.ok (.bl false))) (fun ρ => M.ok (.nx ρ))))
theorem dim_ok {k n : Nat} {o2 : Option D} {s : PenS} (h1 : 1 ≤ n) (h3 : n ≤ 3) (g : Good k s) (hk : k + 400 ≤ LIM) : ∃ s', dimBody [none, some .pen, o2, some (.int n), none] s = .ok (.nx [none, some .pen, o2, some (.int n), none]) s' ∧ Good (k + 400) s' := by
  unfold dimBody
  walk_at "ev"
  obtain ⟨s1, e1, g1⟩ := e_looks h1 h3 g (by omega)
  rw [e1]
  walk_at "ev"
  obtain ⟨s2, e2, g2⟩ := e_numbers h1 h3 g1 (by omega)
  rw [e2]
  walk_at "ev"
  obtain ⟨s3, e3, g3⟩ := e_refused h1 h3 g2 (by omega)
  rw [e3]
  walk_at "ev"
  exact ⟨s3, rfl, g3.mono (by omega)⟩
theorem turn_ok {k : Nat} {o2 o3 : Option D} {s : PenS} (g : Good k s) (hk : k + 1200 ≤ LIM) : ∃ ρ' s', turnBody [none, some .pen, o2, o3, none] s = .ok (.nx ρ') s' ∧ (∃ o3, ρ' = [none, some .pen, o2, o3, none]) ∧ Good (k + 1200) s' := by
  unfold turnBody
  walk_at "evd"
  exact forGo_inv (g := dName 3) (b := dimBody) (fun i ρ s => (∃ o3, ρ = [none, some .pen, o2, o3, none]) ∧ Good (k + 400 * i) s) [.int 1, .int 2, .int 3] 0 [none, some .pen, o2, o3, none] s ⟨⟨o3, rfl⟩, g⟩ (by
    rintro d hd i ρ s _ hi ⟨⟨o3, rfl⟩, gs⟩
    have hi : i < 3 := by simpa using hi
    obtain ⟨n, rfl, h1, h3⟩ : ∃ n : Nat, d = .int n ∧ 1 ≤ n ∧ n ≤ 3 := by
      simp only [List.mem_cons, List.not_mem_nil, or_false] at hd
      rcases hd with rfl | rfl | rfl
      · exact ⟨1, rfl, by omega, by omega⟩
      · exact ⟨2, rfl, by omega, by omega⟩
      · exact ⟨3, rfl, by omega, by omega⟩
    obtain ⟨s', e, g'⟩ := dim_ok (o2 := o2) h1 h3 gs (by omega)
    walk_at "ev"
    exact ⟨_, s', e, ⟨_, rfl⟩, g'.mono (by omega)⟩)
theorem rng_4 (s : PenS) : rngD [.int 4] s = .ok [.int 0, .int 1, .int 2, .int 3] s := id rfl
theorem law_ok : LawOk := by
  intro cells hc
  unfold mr_law startL
  walk_at "evm"
  simp only [rng_4]
  walk_at "ev"
  generalize hF : forGo (dName 2) _ _ _ _ = r
  obtain ⟨ρ', s', e, ⟨o2, o3, rfl⟩, g'⟩ : ∃ ρ' s', r = .ok (.nx ρ') s' ∧ (∃ o2 o3, ρ' = [none, some .pen, o2, o3, none]) ∧ Good 4800 s' := by
    rw [← hF]
    exact forGo_inv (g := dName 2) (b := turnBody) (fun i ρ s => (∃ o2 o3, ρ = [none, some .pen, o2, o3, none]) ∧ Good (1200 * i) s) [.int 0, .int 1, .int 2, .int 3] 0 [none, some .pen, none, none, none] ⟨cells, 0, 0⟩ ⟨⟨none, none, rfl⟩, ⟨by simp, by simp, by simp, hc⟩⟩ (by
      rintro d hd i ρ s _ hi ⟨⟨o2, o3, rfl⟩, gs⟩
      have hi : i < 4 := by simpa using hi
      obtain ⟨ρ1, s1, e, ⟨o3', rfl⟩, g1⟩ := turn_ok (o2 := some d) (o3 := o3) gs (by unfold LIM; omega)
      walk_at "ev"
      exact ⟨_, s1, e, ⟨_, _, rfl⟩, g1.mono (by omega)⟩)
  clear hF
  subst e
  walk_at "ev"
  have k1 : ∀ s, f_coordinate [.int 999999999999] s = .ok (.bl true) s := fun s => by rw [e_coordinate (by intro z; cases z)]; rfl
  have k2 : ∀ s, f_coordinate [.int (-999999999999)] s = .ok (.bl true) s := fun s => by rw [e_coordinate (by intro z; cases z)]; rfl
  have k3 : ∀ s, f_coordinate [.int 1000000000000] s = .ok (.bl false) s := fun s => by rw [e_coordinate (by intro z; cases z)]; rfl
  have k4 : ∀ s, f_coordinate [.int (-1000000000000)] s = .ok (.bl false) s := fun s => by rw [e_coordinate (by intro z; cases z)]; rfl
  have eqL : ∀ s, dEq (.lst [.bl true, .bl true, .bl false, .bl false]) (.lst [.bl true, .bl true, .bl false, .bl false]) s = .ok (.bl true) s := fun s => by kernel_rfl
  simp only [k1]
  iterate 6 (walk_at "evm"; try simp only [k1, k2, k3, k4, p12, eqL])
  exact ⟨_, rfl⟩

end
end GW
namespace GW
open PySem PyProof.Rows L2
theorem fk_is_integer {P : Program} {w : World} {K : PySem.W.Frag} {mg : Str → Option Value} {base : Heap} (T : Top K mg)  {fd : FuncData} (F : FnP K "is_integer" "is_integer" s_is_integer (He.fAd K ("is_integer", none)) fd) : FnOk P w K mg base CX0 1 (He.fAd K ("is_integer", none)) fd ["value"] (sp_is_integer K) := by
  refine F.ok sc_is_integer ln_is_integer (fun cdv A outer s H vs Q E hr h => ⟨t_is_integer K, PSs.nox ?_, pu_is_integer vs H Q E h⟩)
  exact (pss_one (ps_ret (ue_and (pe_callB (call_is1 .int) rfl T.b_isinstance boot_isinstance (pa_cons (uv 0) (pa_cons (pe_bltn rfl T.b_int (by decide +kernel) rfl) pa_nil))) (pe_one (ue_not (pe_callB (call_is1 .bl) rfl T.b_isinstance boot_isinstance (pa_cons (uv 0) (pa_cons (pe_bltn rfl T.b_bool (by decide +kernel) rfl) pa_nil))))))))
theorem ok_is_integer {P : Program} {w : World} {K : PySem.W.Frag} {mg : Str → Option Value} {base : Heap} (T : Top K mg)  : ∃ fd, FnP K "is_integer" "is_integer" s_is_integer (He.fAd K ("is_integer", none)) fd ∧ FnOk P w K mg base CX0 1 (He.fAd K ("is_integer", none)) fd ["value"] (sp_is_integer K) :=
  let ⟨fd, F⟩ := T.d_is_integer
  ⟨fd, F, fk_is_integer T  F⟩
theorem cl_is_integer {P : Program} {w : World} {K : PySem.W.Frag} {mg : Str → Option Value} {base : Heap} (T : Top K mg) (h : ∃ fd, FnP K "is_integer" "is_integer" s_is_integer (He.fAd K ("is_integer", none)) fd ∧ FnOk P w K mg base CX0 1 (He.fAd K ("is_integer", none)) fd ["value"] (sp_is_integer K)) : Cal P w K mg base CX0 "is_integer" 1 ["value"] (sp_is_integer K) := by
  obtain ⟨fd, F, h⟩ := h
  exact ⟨⟨fd, h, F.bindsN fun _ _ _ _ _ _ us hl => match us, hl with | [_], _ => rfl⟩, T.a_is_integer, F.kp⟩
theorem e0_BadDimension {P : Program} {w : World} {K : PySem.W.Frag} {mg : Str → Option Value} {base : Heap} (T : Top K mg) : CalE P w K mg base "BadDimension" 1 ["self", "value"] ["value"] := by
  obtain ⟨fd, F⟩ := T.d_BadDimension
  refine ⟨T.ef.e_BadDimension, T.ef.n_BadDimension, T.a_BadDimension, fd, F.ok sc_BadDimension (ln_err rfl) (fun cdv A outer s H vs Q E hr h => ⟨t_BadDimension K, PSs.nox ?_, pu_err1 vs H Q E h⟩), F.bindsN fun _ _ _ _ _ _ us hl => match us, hl with | [_, _], _ => rfl⟩
  exact (pss_one (ps_ost (uv 0) (uv 1)))
theorem e0_BadName {P : Program} {w : World} {K : PySem.W.Frag} {mg : Str → Option Value} {base : Heap} (T : Top K mg) : CalE P w K mg base "BadName" 1 ["self", "value"] ["value"] := by
  obtain ⟨fd, F⟩ := T.d_BadName
  refine ⟨T.ef.e_BadName, T.ef.n_BadName, T.a_BadName, fd, F.ok sc_BadName (ln_err rfl) (fun cdv A outer s H vs Q E hr h => ⟨t_BadName K, PSs.nox ?_, pu_err1 vs H Q E h⟩), F.bindsN fun _ _ _ _ _ _ us hl => match us, hl with | [_, _], _ => rfl⟩
  exact (pss_one (ps_ost (uv 0) (uv 1)))
theorem e0_BadNumber {P : Program} {w : World} {K : PySem.W.Frag} {mg : Str → Option Value} {base : Heap} (T : Top K mg) : CalE P w K mg base "BadNumber" 1 ["self", "part"] ["part"] := by
  obtain ⟨fd, F⟩ := T.d_BadNumber
  refine ⟨T.ef.e_BadNumber, T.ef.n_BadNumber, T.a_BadNumber, fd, F.ok sc_BadNumber (ln_err rfl) (fun cdv A outer s H vs Q E hr h => ⟨t_BadNumber K, PSs.nox ?_, pu_err1 vs H Q E h⟩), F.bindsN fun _ _ _ _ _ _ us hl => match us, hl with | [_, _], _ => rfl⟩
  exact (pss_one (ps_ost (uv 0) (uv 1)))
theorem fk_kinds_in {P : Program} {w : World} {K : PySem.W.Frag} {mg : Str → Option Value} {base : Heap} (T : Top K mg)  {fd : FuncData} (F : FnP K "kinds_in" "kinds_in" s_kinds_in (He.fAd K ("kinds_in", none)) fd) : FnOk P w K mg base CX0 1 (He.fAd K ("kinds_in", none)) fd ["dimension"] (sp_kinds_in K) := by
  refine F.ok sc_kinds_in ln_kinds_in (fun cdv A outer s H vs Q E hr h => ⟨t_kinds_in K, PSs.nox ?_, pu_kinds_in T.ef vs H Q E h⟩)
  exact (pss_one (ps_ret (pe_ifExp (utc uo_gt (uv 0) pe_int (nomark _)) (ug_ref T.c_KINDS rfl) (pe_slice us (ug_ref T.c_KINDS rfl) (upo pe_int) po_none))))
theorem ok_kinds_in {P : Program} {w : World} {K : PySem.W.Frag} {mg : Str → Option Value} {base : Heap} (T : Top K mg)  : ∃ fd, FnP K "kinds_in" "kinds_in" s_kinds_in (He.fAd K ("kinds_in", none)) fd ∧ FnOk P w K mg base CX0 1 (He.fAd K ("kinds_in", none)) fd ["dimension"] (sp_kinds_in K) :=
  let ⟨fd, F⟩ := T.d_kinds_in
  ⟨fd, F, fk_kinds_in T  F⟩
theorem cl_kinds_in {P : Program} {w : World} {K : PySem.W.Frag} {mg : Str → Option Value} {base : Heap} (T : Top K mg) (h : ∃ fd, FnP K "kinds_in" "kinds_in" s_kinds_in (He.fAd K ("kinds_in", none)) fd ∧ FnOk P w K mg base CX0 1 (He.fAd K ("kinds_in", none)) fd ["dimension"] (sp_kinds_in K)) : Cal P w K mg base CX0 "kinds_in" 1 ["dimension"] (sp_kinds_in K) := by
  obtain ⟨fd, F, h⟩ := h
  exact ⟨⟨fd, h, F.bindsN fun _ _ _ _ _ _ us hl => match us, hl with | [_], _ => rfl⟩, T.a_kinds_in, F.kp⟩
theorem fk_points_in {P : Program} {w : World} {K : PySem.W.Frag} {mg : Str → Option Value} {base : Heap} (T : Top K mg)  {fd : FuncData} (F : FnP K "points_in" "points_in" s_points_in (He.fAd K ("points_in", none)) fd) : FnOk P w K mg base CX0 1 (He.fAd K ("points_in", none)) fd ["dimension", "kind"] (sp_points_in K) := by
  refine F.ok sc_points_in ln_points_in (fun cdv A outer s H vs Q E hr h => ⟨t_points_in K, PSs.nox ?_, pu_points_in vs H Q E h⟩)
  exact (pss_one (ps_ret (pe_ix (ux (hu_of hr)) (pe_disp (pps_cons pe_str pe_int (pps_cons pe_str (pe_op uo_sub (uv 0) pe_int) (pps_cons pe_str pe_int pps_nil))) (by rfl) (by rfl) (fun z => by cases z) (by decide)) (uv 1) (fun _ _ => rfl))))
theorem ok_points_in {P : Program} {w : World} {K : PySem.W.Frag} {mg : Str → Option Value} {base : Heap} (T : Top K mg)  : ∃ fd, FnP K "points_in" "points_in" s_points_in (He.fAd K ("points_in", none)) fd ∧ FnOk P w K mg base CX0 1 (He.fAd K ("points_in", none)) fd ["dimension", "kind"] (sp_points_in K) :=
  let ⟨fd, F⟩ := T.d_points_in
  ⟨fd, F, fk_points_in T  F⟩
theorem cl_points_in {P : Program} {w : World} {K : PySem.W.Frag} {mg : Str → Option Value} {base : Heap} (T : Top K mg) (h : ∃ fd, FnP K "points_in" "points_in" s_points_in (He.fAd K ("points_in", none)) fd ∧ FnOk P w K mg base CX0 1 (He.fAd K ("points_in", none)) fd ["dimension", "kind"] (sp_points_in K)) : Cal P w K mg base CX0 "points_in" 1 ["dimension", "kind"] (sp_points_in K) := by
  obtain ⟨fd, F, h⟩ := h
  exact ⟨⟨fd, h, F.bindsN fun _ _ _ _ _ _ us hl => match us, hl with | [_, _], _ => rfl⟩, T.a_points_in, F.kp⟩
theorem fk_speed_rows {P : Program} {w : World} {K : PySem.W.Frag} {mg : Str → Option Value} {base : Heap} (T : Top K mg)  {fd : FuncData} (F : FnP K "speed_rows" "speed_rows" s_speed_rows (He.fAd K ("speed_rows", none)) fd) : FnOk P w K mg base CX0 1 (He.fAd K ("speed_rows", none)) fd ["point"] (sp_speed_rows K) := by
  refine F.ok sc_speed_rows ln_speed_rows (fun cdv A outer s H vs Q E hr h => ⟨t_speed_rows K, PSs.nox ?_, pu_speed_rows vs H Q E h⟩)
  exact (pss_cons (ps_if (utc (uo_eq hr.units) (pe_callB cu_len rfl T.b_len (by decide +kernel) (pa_cons (uv 0) pa_nil)) pe_int (nomark _)) (pss_one (ps_ret (pe_lst (pa_cons (pe_tup (pa_cons pe_int pa_nil)) pa_nil)))) pss_nil)
    (pss_cons (ps_if (utc (uo_eq hr.units) (pe_callB cu_len rfl T.b_len (by decide +kernel) (pa_cons (uv 0) pa_nil)) pe_int (nomark _)) (pss_one (ps_ret (pe_lst (pa_cons (pe_tup (pa_cons pe_int (pa_cons pe_int (pa_cons (pe_un uo_neg (pe_ix (ux (hu_of hr)) (uv 0) pe_int (fun _ _ => rfl))) pa_nil)))) (pa_cons (pe_tup (pa_cons pe_int (pa_cons pe_int (pa_cons (pe_ix (ux (hu_of hr)) (uv 0) pe_int (fun _ _ => rfl)) pa_nil)))) pa_nil))))) pss_nil)
    (pss_cons (ps_asg (uv 0) (pg_tup (by rfl) (pgs_cons (ugn 1 sc_speed_rows.nd) (pgs_cons (ugn 2 sc_speed_rows.nd) (pgs_cons (ugn 3 sc_speed_rows.nd) pgs_nil)))))
    (pss_one (ps_ret (pe_lst (pa_cons (pe_tup (pa_cons pe_int (pa_cons pe_int (pa_cons pe_int (pa_cons pe_int (pa_cons (uv 3) (pa_cons (pe_un uo_neg (uv 2)) pa_nil))))))) (pa_cons (pe_tup (pa_cons pe_int (pa_cons pe_int (pa_cons pe_int (pa_cons (pe_un uo_neg (uv 3)) (pa_cons pe_int (pa_cons (uv 1) pa_nil))))))) (pa_cons (pe_tup (pa_cons pe_int (pa_cons pe_int (pa_cons pe_int (pa_cons (uv 2) (pa_cons (pe_un uo_neg (uv 1)) (pa_cons pe_int pa_nil))))))) pa_nil)))))))))
theorem ok_speed_rows {P : Program} {w : World} {K : PySem.W.Frag} {mg : Str → Option Value} {base : Heap} (T : Top K mg)  : ∃ fd, FnP K "speed_rows" "speed_rows" s_speed_rows (He.fAd K ("speed_rows", none)) fd ∧ FnOk P w K mg base CX0 1 (He.fAd K ("speed_rows", none)) fd ["point"] (sp_speed_rows K) :=
  let ⟨fd, F⟩ := T.d_speed_rows
  ⟨fd, F, fk_speed_rows T  F⟩
theorem cl_speed_rows {P : Program} {w : World} {K : PySem.W.Frag} {mg : Str → Option Value} {base : Heap} (T : Top K mg) (h : ∃ fd, FnP K "speed_rows" "speed_rows" s_speed_rows (He.fAd K ("speed_rows", none)) fd ∧ FnOk P w K mg base CX0 1 (He.fAd K ("speed_rows", none)) fd ["point"] (sp_speed_rows K)) : Cal P w K mg base CX0 "speed_rows" 1 ["point"] (sp_speed_rows K) := by
  obtain ⟨fd, F, h⟩ := h
  exact ⟨⟨fd, h, F.bindsN fun _ _ _ _ _ _ us hl => match us, hl with | [_], _ => rfl⟩, T.a_speed_rows, F.kp⟩
theorem fk_times {P : Program} {w : World} {K : PySem.W.Frag} {mg : Str → Option Value} {base : Heap} (T : Top K mg)  {fd : FuncData} (F : FnP K "times" "times" s_times (He.fAd K ("times", none)) fd) : FnOk P w K mg base CX0 1 (He.fAd K ("times", none)) fd ["one", "other"] (sp_times K) := by
  refine F.ok sc_times ln_times (fun cdv A outer s H vs Q E hr h => ⟨t_times K, PSs.nox ?_, pu_times vs H Q E h⟩)
  exact (pss_one (ps_ret (pe_callB (cu_sum rfl) rfl T.b_sum (by decide +kernel) (pa_cons (pe_lc (own := [("mine", 2), ("its", 3)]) rfl sc_times.nd (RZ.pi_zipA (by rfl) T.b_zip (pa_cons (uv 0) (pa_cons (uv 1) pa_nil))) (blkOk_by (own := [("mine", 2), ("its", 3)]) (by kernel_rfl)) (fun _ _ _ _ _ => (pg_tup (by rfl) (pgs_cons (ugn 2 sc_times.nd) (pgs_cons (ugn 3 sc_times.nd) pgs_nil)))) (fun _ _ _ _ _ => pts_nil) (fun _ _ _ _ _ => (pe_op uo_mulU (uv 2) (uv 3)))) pa_nil))))
theorem ok_times {P : Program} {w : World} {K : PySem.W.Frag} {mg : Str → Option Value} {base : Heap} (T : Top K mg)  : ∃ fd, FnP K "times" "times" s_times (He.fAd K ("times", none)) fd ∧ FnOk P w K mg base CX0 1 (He.fAd K ("times", none)) fd ["one", "other"] (sp_times K) :=
  let ⟨fd, F⟩ := T.d_times
  ⟨fd, F, fk_times T  F⟩
theorem cl_times {P : Program} {w : World} {K : PySem.W.Frag} {mg : Str → Option Value} {base : Heap} (T : Top K mg) (h : ∃ fd, FnP K "times" "times" s_times (He.fAd K ("times", none)) fd ∧ FnOk P w K mg base CX0 1 (He.fAd K ("times", none)) fd ["one", "other"] (sp_times K)) : Cal P w K mg base CX0 "times" 1 ["one", "other"] (sp_times K) := by
  obtain ⟨fd, F, h⟩ := h
  exact ⟨⟨fd, h, F.bindsN fun _ _ _ _ _ _ us hl => match us, hl with | [_, _], _ => rfl⟩, T.a_times, F.kp⟩
theorem fk_law_pen {P : Program} {w : World} {K : PySem.W.Frag} {mg : Str → Option Value} {base : Heap} (T : Top K mg)  {fd : FuncData} (F : FnP K "_law_pen" "_law_pen" s_law_pen (He.fAd K ("_law_pen", none)) fd) : FnOk P w K mg base CX0 1 (He.fAd K ("_law_pen", none)) fd ["script"] (sp_law_pen K) := by
  refine F.ok sc_law_pen ln_law_pen (fun cdv A outer s H vs Q E hr h => ⟨t_law_pen K, PSs.nox ?_, pu_law_pen vs H Q E h⟩)
  exact (pss_one (ps_ret (pe_lst (pa_cons (pe_lc (own := [("cell", 1)]) rfl sc_law_pen.nd (ui (pe_slice us (uv 0) po_none (upo pe_int))) (blkOk_by (own := [("cell", 1)]) (by kernel_rfl)) (fun _ _ _ _ _ => (ugn 1 sc_law_pen.nd)) (fun _ _ _ _ _ => pts_nil) (fun _ _ _ _ _ => (pe_callTy cu_int rfl T.b_int (by decide +kernel) (pa_cons (uv 1) pa_nil)))) (pa_cons pe_int (pa_cons pe_int pa_nil))))))
theorem ok_law_pen {P : Program} {w : World} {K : PySem.W.Frag} {mg : Str → Option Value} {base : Heap} (T : Top K mg)  : ∃ fd, FnP K "_law_pen" "_law_pen" s_law_pen (He.fAd K ("_law_pen", none)) fd ∧ FnOk P w K mg base CX0 1 (He.fAd K ("_law_pen", none)) fd ["script"] (sp_law_pen K) :=
  let ⟨fd, F⟩ := T.d_law_pen
  ⟨fd, F, fk_law_pen T  F⟩
theorem cl_law_pen {P : Program} {w : World} {K : PySem.W.Frag} {mg : Str → Option Value} {base : Heap} (T : Top K mg) (h : ∃ fd, FnP K "_law_pen" "_law_pen" s_law_pen (He.fAd K ("_law_pen", none)) fd ∧ FnOk P w K mg base CX0 1 (He.fAd K ("_law_pen", none)) fd ["script"] (sp_law_pen K)) : Cal P w K mg base CX0 "_law_pen" 1 ["script"] (sp_law_pen K) := by
  obtain ⟨fd, F, h⟩ := h
  exact ⟨⟨fd, h, F.bindsN fun _ _ _ _ _ _ us hl => match us, hl with | [_], _ => rfl⟩, T.a_law_pen, F.kp⟩
theorem fk_law_draw {P : Program} {w : World} {K : PySem.W.Frag} {mg : Str → Option Value} {base : Heap} (T : Top K mg)  {fd : FuncData} (F : FnP K "_law_draw" "_law_draw" s_law_draw (He.fAd K ("_law_draw", none)) fd) : FnOk P w K mg base CX0 1 (He.fAd K ("_law_draw", none)) fd ["pen", "many"] (sp_law_draw K) := by
  refine F.ok sc_law_draw ln_law_draw (fun cdv A outer s H vs Q E hr h => ⟨t_law_draw K, PSs.nox ?_, pu_law_draw vs H Q E h⟩)
  exact (pss_cons (ps_if (utc uo_gt (pe_ix (ux (hu_of hr)) (uv 0) pe_int (fun _ _ => rfl)) pe_int (nomark _)) (pss_cons (us_set 2 sc_law_draw.nd (pe_ix (ux (hu_of hr)) (uv 0) pe_int (fun _ _ => rfl)))
    (pss_cons (ps_asg (pe_op uo_div (pe_callTy cu_int rfl T.b_int (by decide +kernel) (pa_cons (uv 2) pa_nil)) (uv 1)) (pg_sub (uv 0) pe_int (uset (hu_of hr))))
    (pss_one (ps_ret (pe_op uo_mod (pe_callTy cu_int rfl T.b_int (by decide +kernel) (pa_cons (uv 2) pa_nil)) (uv 1)))))) pss_nil)
    (pss_cons (us_set 3 sc_law_draw.nd (pe_ix (ux (hu_of hr)) (uv 0) pe_int (fun _ _ => rfl)))
    (pss_cons (ps_asg (pe_op uo_addT (uv 3) pe_int) (pg_sub (uv 0) pe_int (uset (hu_of hr))))
    (pss_cons (us_set 4 sc_law_draw.nd (pe_op uo_addT (pe_op uo_mulU pe_int (uv 3)) pe_int))
    (pss_cons (ps_if (utc (uo_ne hr.units) (pe_ix (ux (hu_of hr)) (uv 0) pe_int (fun _ _ => rfl)) (pe_lst pa_nil) (nomark _)) (pss_one (us_set 4 sc_law_draw.nd (pe_ix (ux (hu_of hr)) (pe_ix (ux (hu_of hr)) (uv 0) pe_int (fun _ _ => rfl)) (pe_op uo_mod (pe_callTy cu_int rfl T.b_int (by decide +kernel) (pa_cons (uv 3) pa_nil)) (pe_callB cu_len rfl T.b_len (by decide +kernel) (pa_cons (pe_ix (ux (hu_of hr)) (uv 0) pe_int (fun _ _ => rfl)) pa_nil))) (fun _ _ => rfl)))) pss_nil)
    (pss_cons (ps_if (PW.pt (pw_and (utc uo_lt (uv 3) (pe_callB cu_len rfl T.b_len (by decide +kernel) (pa_cons (pe_ix (ux (hu_of hr)) (uv 0) pe_int (fun _ _ => rfl)) pa_nil)) (nomark _)) (pw_and1 (utc uo_ge (pe_callB cu_abs rfl T.b_abs (by decide +kernel) (pa_cons (uv 4) pa_nil)) (pe_op uo_pow pe_int pe_int) (nomark _))))) (pss_cons (us_set 2 sc_law_draw.nd (pe_op uo_addT (pe_op uo_mulU pe_int (pe_op uo_sub (pe_callB cu_abs rfl T.b_abs (by decide +kernel) (pa_cons (uv 4) pa_nil)) (pe_op uo_pow pe_int pe_int))) (pe_callTy cu_int rfl T.b_int (by decide +kernel) (pa_cons (pe_cmpR uo_lt (uv 4) pe_int (nomark _)) pa_nil))))
    (pss_cons (ps_asg (pe_op uo_div (pe_callTy cu_int rfl T.b_int (by decide +kernel) (pa_cons (uv 2) pa_nil)) (uv 1)) (pg_sub (uv 0) pe_int (uset (hu_of hr))))
    (pss_one (ps_ret (pe_op uo_mod (pe_callTy cu_int rfl T.b_int (by decide +kernel) (pa_cons (uv 2) pa_nil)) (uv 1)))))) pss_nil)
    (pss_cons (us_set 5 sc_law_draw.nd (pe_op uo_mod (pe_callTy cu_int rfl T.b_int (by decide +kernel) (pa_cons (pe_op uo_pow (pe_op uo_addT (pe_op uo_addT (pe_op uo_mod (pe_callTy cu_int rfl T.b_int (by decide +kernel) (pa_cons (uv 4) pa_nil)) pe_int) (pe_op uo_mulU pe_int (uv 3))) pe_int) pe_int) pa_nil)) pe_int))
    (pss_cons (us_set 5 sc_law_draw.nd (pe_op uo_mod (pe_callTy cu_int rfl T.b_int (by decide +kernel) (pa_cons (pe_op uo_pow (pe_op uo_addT (pe_op uo_addT (pe_op uo_mulU (uv 5) (pe_op uo_addT (pe_op uo_mulU pe_int (uv 3)) pe_int)) (pe_op uo_mulU (pe_op uo_mulU pe_int (uv 3)) (uv 3))) pe_int) pe_int) pa_nil)) pe_int))
    (pss_one (ps_ret (pe_op uo_mod (pe_callTy cu_int rfl T.b_int (by decide +kernel) (pa_cons (pe_op uo_div (uv 5) pe_int) pa_nil)) (uv 1))))))))))))
theorem ok_law_draw {P : Program} {w : World} {K : PySem.W.Frag} {mg : Str → Option Value} {base : Heap} (T : Top K mg)  : ∃ fd, FnP K "_law_draw" "_law_draw" s_law_draw (He.fAd K ("_law_draw", none)) fd ∧ FnOk P w K mg base CX0 1 (He.fAd K ("_law_draw", none)) fd ["pen", "many"] (sp_law_draw K) :=
  let ⟨fd, F⟩ := T.d_law_draw
  ⟨fd, F, fk_law_draw T  F⟩
theorem cl_law_draw {P : Program} {w : World} {K : PySem.W.Frag} {mg : Str → Option Value} {base : Heap} (T : Top K mg) (h : ∃ fd, FnP K "_law_draw" "_law_draw" s_law_draw (He.fAd K ("_law_draw", none)) fd ∧ FnOk P w K mg base CX0 1 (He.fAd K ("_law_draw", none)) fd ["pen", "many"] (sp_law_draw K)) : Cal P w K mg base CX0 "_law_draw" 1 ["pen", "many"] (sp_law_draw K) := by
  obtain ⟨fd, F, h⟩ := h
  exact ⟨⟨fd, h, F.bindsN fun _ _ _ _ _ _ us hl => match us, hl with | [_, _], _ => rfl⟩, T.a_law_draw, F.kp⟩
theorem fk_law_speed {P : Program} {w : World} {K : PySem.W.Frag} {mg : Str → Option Value} {base : Heap} (T : Top K mg)  {fd : FuncData} (F : FnP K "_law_speed" "_law_speed" s_law_speed (He.fAd K ("_law_speed", none)) fd) : FnOk P w K mg base CX0 1 (He.fAd K ("_law_speed", none)) fd ["motion", "point"] (sp_law_speed K) := by
  refine F.ok sc_law_speed ln_law_speed (fun cdv A outer s H vs Q E hr h => ⟨t_law_speed K, PSs.nox ?_, pu_law_speed vs H Q E h⟩)
  exact (pss_cons (ps_if (utc (uo_eq hr.units) (pe_callB cu_len rfl T.b_len (by decide +kernel) (pa_cons (uv 1) pa_nil)) pe_int (nomark _)) (pss_one (ps_ret (pe_lst (pa_cons (pe_ix (ux (hu_of hr)) (uv 0) pe_int (fun _ _ => rfl)) pa_nil)))) pss_nil)
    (pss_cons (ps_if (utc (uo_eq hr.units) (pe_callB cu_len rfl T.b_len (by decide +kernel) (pa_cons (uv 1) pa_nil)) pe_int (nomark _)) (pss_one (ps_ret (pe_lst (pa_cons (pe_op uo_sub (pe_ix (ux (hu_of hr)) (uv 0) pe_int (fun _ _ => rfl)) (pe_op uo_mulU (pe_ix (ux (hu_of hr)) (uv 0) pe_int (fun _ _ => rfl)) (pe_ix (ux (hu_of hr)) (uv 1) pe_int (fun _ _ => rfl)))) (pa_cons (pe_op uo_addT (pe_ix (ux (hu_of hr)) (uv 0) pe_int (fun _ _ => rfl)) (pe_op uo_mulU (pe_ix (ux (hu_of hr)) (uv 0) pe_int (fun _ _ => rfl)) (pe_ix (ux (hu_of hr)) (uv 1) pe_int (fun _ _ => rfl)))) pa_nil))))) pss_nil)
    (pss_cons (us_set 2 sc_law_speed.nd (pe_op uo_sub (pe_op uo_addT (pe_ix (ux (hu_of hr)) (uv 0) pe_int (fun _ _ => rfl)) (pe_op uo_mulU (pe_ix (ux (hu_of hr)) (uv 0) pe_int (fun _ _ => rfl)) (pe_ix (ux (hu_of hr)) (uv 1) pe_int (fun _ _ => rfl)))) (pe_op uo_mulU (pe_ix (ux (hu_of hr)) (uv 0) pe_int (fun _ _ => rfl)) (pe_ix (ux (hu_of hr)) (uv 1) pe_int (fun _ _ => rfl)))))
    (pss_cons (us_set 3 sc_law_speed.nd (pe_op uo_sub (pe_op uo_addT (pe_ix (ux (hu_of hr)) (uv 0) pe_int (fun _ _ => rfl)) (pe_op uo_mulU (pe_ix (ux (hu_of hr)) (uv 0) pe_int (fun _ _ => rfl)) (pe_ix (ux (hu_of hr)) (uv 1) pe_int (fun _ _ => rfl)))) (pe_op uo_mulU (pe_ix (ux (hu_of hr)) (uv 0) pe_int (fun _ _ => rfl)) (pe_ix (ux (hu_of hr)) (uv 1) pe_int (fun _ _ => rfl)))))
    (pss_one (ps_ret (pe_lst (pa_cons (uv 2) (pa_cons (uv 3) (pa_cons (pe_op uo_sub (pe_op uo_addT (pe_ix (ux (hu_of hr)) (uv 0) pe_int (fun _ _ => rfl)) (pe_op uo_mulU (pe_ix (ux (hu_of hr)) (uv 0) pe_int (fun _ _ => rfl)) (pe_ix (ux (hu_of hr)) (uv 1) pe_int (fun _ _ => rfl)))) (pe_op uo_mulU (pe_ix (ux (hu_of hr)) (uv 0) pe_int (fun _ _ => rfl)) (pe_ix (ux (hu_of hr)) (uv 1) pe_int (fun _ _ => rfl)))) pa_nil))))))))))
theorem ok_law_speed {P : Program} {w : World} {K : PySem.W.Frag} {mg : Str → Option Value} {base : Heap} (T : Top K mg)  : ∃ fd, FnP K "_law_speed" "_law_speed" s_law_speed (He.fAd K ("_law_speed", none)) fd ∧ FnOk P w K mg base CX0 1 (He.fAd K ("_law_speed", none)) fd ["motion", "point"] (sp_law_speed K) :=
  let ⟨fd, F⟩ := T.d_law_speed
  ⟨fd, F, fk_law_speed T  F⟩
theorem cl_law_speed {P : Program} {w : World} {K : PySem.W.Frag} {mg : Str → Option Value} {base : Heap} (T : Top K mg) (h : ∃ fd, FnP K "_law_speed" "_law_speed" s_law_speed (He.fAd K ("_law_speed", none)) fd ∧ FnOk P w K mg base CX0 1 (He.fAd K ("_law_speed", none)) fd ["motion", "point"] (sp_law_speed K)) : Cal P w K mg base CX0 "_law_speed" 1 ["motion", "point"] (sp_law_speed K) := by
  obtain ⟨fd, F, h⟩ := h
  exact ⟨⟨fd, h, F.bindsN fun _ _ _ _ _ _ us hl => match us, hl with | [_, _], _ => rfl⟩, T.a_law_speed, F.kp⟩
theorem fk_law_units {P : Program} {w : World} {K : PySem.W.Frag} {mg : Str → Option Value} {base : Heap} (T : Top K mg)  {fd : FuncData} (F : FnP K "_law_units" "_law_units" s_law_units (He.fAd K ("_law_units", none)) fd) : FnOk P w K mg base CX0 1 (He.fAd K ("_law_units", none)) fd ["width"] (sp_law_units K) := by
  refine F.ok sc_law_units ln_law_units (fun cdv A outer s H vs Q E hr h => ⟨t_law_units K, PSs.nox ?_, pu_law_units vs H Q E h⟩)
  exact (pss_one (ps_ret (pe_lc (own := [("spot", 1)]) rfl sc_law_units.nd (pi_range1 rfl T.b_range (pa_cons (uv 0) pa_nil)) (blkOk_by (own := [("spot", 1)]) (by kernel_rfl)) (fun _ _ _ _ _ => (ugn 1 sc_law_units.nd)) (fun _ _ _ _ _ => pts_nil) (fun _ _ _ _ _ => (pe_lc (own := [("at", 2)]) rfl sc_law_units.nd (pi_range1 rfl T.b_range (pa_cons (uv 0) pa_nil)) (blkOk_by (own := [("at", 2)]) (by kernel_rfl)) (fun _ _ _ _ _ => (ugn 2 sc_law_units.nd)) (fun _ _ _ _ _ => pts_nil) (fun _ _ _ _ _ => (pe_callTy cu_int rfl T.b_int (by decide +kernel) (pa_cons (pe_cmpR (uo_eq hr.units) (uv 2) (uv 1) (nomark _)) pa_nil))))))))
theorem ok_law_units {P : Program} {w : World} {K : PySem.W.Frag} {mg : Str → Option Value} {base : Heap} (T : Top K mg)  : ∃ fd, FnP K "_law_units" "_law_units" s_law_units (He.fAd K ("_law_units", none)) fd ∧ FnOk P w K mg base CX0 1 (He.fAd K ("_law_units", none)) fd ["width"] (sp_law_units K) :=
  let ⟨fd, F⟩ := T.d_law_units
  ⟨fd, F, fk_law_units T  F⟩
theorem cl_law_units {P : Program} {w : World} {K : PySem.W.Frag} {mg : Str → Option Value} {base : Heap} (T : Top K mg) (h : ∃ fd, FnP K "_law_units" "_law_units" s_law_units (He.fAd K ("_law_units", none)) fd ∧ FnOk P w K mg base CX0 1 (He.fAd K ("_law_units", none)) fd ["width"] (sp_law_units K)) : Cal P w K mg base CX0 "_law_units" 1 ["width"] (sp_law_units K) := by
  obtain ⟨fd, F, h⟩ := h
  exact ⟨⟨fd, h, F.bindsN fun _ _ _ _ _ _ us hl => match us, hl with | [_], _ => rfl⟩, T.a_law_units, F.kp⟩
theorem c0_law_heard {P : Program} {w : World} {K : PySem.W.Frag} {mg : Str → Option Value} {base : Heap} (T : Top K mg)  : CalH P w K mg base "_law_heard" "ask" 1 (fun _ => True) (TT_law_heard K) := by
  obtain ⟨fd, F⟩ := T.d_law_heard
  obtain ⟨oc, od, dV, kV, doc, pm, an, cdv, ct, osl, rfl, lk, hcd, _⟩ := F.ex
  refine ⟨⟨_, _, _, dV, kV, doc, pm, cdv, ct, oc, an, od, osl, n_law_heard, lk, hcd, F.bindsN fun _ _ _ _ _ _ us hl => match us, hl with | [_], _ => rfl, sc_law_heard, rfl, Or.inl rfl, ?_⟩, T.a_law_heard, F.kp⟩
  intro X h1 h2 h3 h4 h5 _ room s H f c' q T' Q act code h
  cases X
  dsimp only at h1 h2 h3 h4 h5
  replace h1 := h1.symm; subst h1
  replace h2 := h2.symm; subst h2
  replace h3 := h3.symm; subst h3
  replace h4 := h4.symm; subst h4
  replace h5 := h5.symm; subst h5
  have hr := room.deeper (envOfC "_law_heard" (defScope s_law_heard) s.heap.objs.size (He.ga K "_law_heard") cdv)
  refine ⟨t_law_heard K f c' q T', ?_, pu_law_heard T.ef f c' q T' H Q code h⟩
  exact (pss_cons (ps_par (i := 1) (j := 2) (by rfl) sc_law_heard.nd rfl rfl (by decide) rfl rfl (pa_cons pe_non (pa_cons (pe_lst pa_nil) pa_nil)) (by rfl))
    (pss_cons (ps_try_kept (i := 3) rfl rfl rfl sc_law_heard.nd rfl rfl (by exact ⟨rfl, by decide, .inl T.a_GiveError⟩) LamX.takes0 (fun W pn xe tk _ => (pss_one (ps_expr (act W pn xe _ _ tk)))) (fun a oe cls d pn _ _ => (pss_one (us_set 1 sc_law_heard.nd (uv 3)))))
    (pss_cons (ps_if (utc uo_is (uv 1) pe_non (nomark _)) (pss_one (ps_ret pe_non)) pss_nil)
    (pss_cons (ps_if (ut (pe_callB cu_isX rfl T.b_isinstance boot_isinstance (pa_cons (uv 1) (pa_cons (ug_ref T.a_BadDimension rfl) pa_nil)))) (pss_one (ps_expr (pe_bm PySem.F.plainAttrs_list PySem.F.slot_list_append PySem.F.type_list_append mt_append (uv 2) (pa_cons (pe_tup (pa_cons pe_str (pa_cons (ue_xf (uv 1)) pa_nil))) pa_nil)))) pss_nil)
    (pss_cons (ps_if (ut (pe_callB cu_isX rfl T.b_isinstance boot_isinstance (pa_cons (uv 1) (pa_cons (ug_ref T.a_BadName rfl) pa_nil)))) (pss_one (ps_expr (pe_bm PySem.F.plainAttrs_list PySem.F.slot_list_append PySem.F.type_list_append mt_append (uv 2) (pa_cons (pe_tup (pa_cons pe_str (pa_cons (ue_xf (uv 1)) pa_nil))) pa_nil)))) pss_nil)
    (pss_cons (ps_if (ut (pe_callB cu_isX rfl T.b_isinstance boot_isinstance (pa_cons (uv 1) (pa_cons (ug_ref T.a_BadNumber rfl) pa_nil)))) (pss_one (ps_expr (pe_bm PySem.F.plainAttrs_list PySem.F.slot_list_append PySem.F.type_list_append mt_append (uv 2) (pa_cons (pe_tup (pa_cons pe_str (pa_cons (ue_xf (uv 1)) pa_nil))) pa_nil)))) pss_nil)
    (pss_cons (ps_if (ut (pe_callB cu_isX rfl T.b_isinstance boot_isinstance (pa_cons (uv 1) (pa_cons (ug_ref T.a_NoTie rfl) pa_nil)))) (pss_one (ps_expr (pe_bm PySem.F.plainAttrs_list PySem.F.slot_list_append PySem.F.type_list_append mt_append (uv 2) (pa_cons (pe_tup (pa_cons pe_str (pa_cons (ue_xf (uv 1)) pa_nil))) pa_nil)))) pss_nil)
    (pss_cons (ps_if (ut (pe_callB cu_isX rfl T.b_isinstance boot_isinstance (pa_cons (uv 1) (pa_cons (ug_ref T.a_TooMany rfl) pa_nil)))) (pss_one (ps_expr (pe_bm PySem.F.plainAttrs_list PySem.F.slot_list_append PySem.F.type_list_append mt_append (uv 2) (pa_cons (pe_tup (pa_cons pe_str (pa_cons (ue_xf (uv 1)) (pa_cons (ue_xf (uv 1)) pa_nil)))) pa_nil)))) pss_nil)
    (pss_one (ps_ret (pe_ifExp (utc (uo_eq hr.units) (pe_callB cu_len rfl T.b_len (by decide +kernel) (pa_cons (uv 2) pa_nil)) pe_int (nomark _)) (pe_ix (ux (hu_of hr)) (uv 2) pe_int (fun _ _ => rfl)) (pe_tup (pa_cons pe_str pa_nil)))))))))))))
theorem fk_law_says {P : Program} {w : World} {K : PySem.W.Frag} {mg : Str → Option Value} {base : Heap} (T : Top K mg)  {fd : FuncData} (F : FnP K "_law_says" "_law_says" s_law_says (He.fAd K ("_law_says", none)) fd) : FnOk P w K mg base CX0 1 (He.fAd K ("_law_says", none)) fd ["value", "due"] (sp_law_says K) := by
  refine F.ok sc_law_says ln_law_says (fun cdv A outer s H vs Q E hr h => ⟨t_law_says K, PSs.nox ?_, pu_law_says vs H Q E h⟩)
  exact (pss_one (ps_ret (pe_ifExp (utt (uv 1)) (pe_cmpR uo_is (uv 0) pe_bl (nomark _)) (pe_cmpR uo_is (uv 0) pe_bl (nomark _)))))
theorem ok_law_says {P : Program} {w : World} {K : PySem.W.Frag} {mg : Str → Option Value} {base : Heap} (T : Top K mg)  : ∃ fd, FnP K "_law_says" "_law_says" s_law_says (He.fAd K ("_law_says", none)) fd ∧ FnOk P w K mg base CX0 1 (He.fAd K ("_law_says", none)) fd ["value", "due"] (sp_law_says K) :=
  let ⟨fd, F⟩ := T.d_law_says
  ⟨fd, F, fk_law_says T  F⟩
theorem cl_law_says {P : Program} {w : World} {K : PySem.W.Frag} {mg : Str → Option Value} {base : Heap} (T : Top K mg) (h : ∃ fd, FnP K "_law_says" "_law_says" s_law_says (He.fAd K ("_law_says", none)) fd ∧ FnOk P w K mg base CX0 1 (He.fAd K ("_law_says", none)) fd ["value", "due"] (sp_law_says K)) : Cal P w K mg base CX0 "_law_says" 1 ["value", "due"] (sp_law_says K) := by
  obtain ⟨fd, F, h⟩ := h
  exact ⟨⟨fd, h, F.bindsN fun _ _ _ _ _ _ us hl => match us, hl with | [_, _], _ => rfl⟩, T.a_law_says, F.kp⟩
theorem fk_law_is_coordinate {P : Program} {w : World} {K : PySem.W.Frag} {mg : Str → Option Value} {base : Heap} (T : Top K mg)  {fd : FuncData} (F : FnP K "_law_is_coordinate" "_law_is_coordinate" s_law_is_coordinate (He.fAd K ("_law_is_coordinate", none)) fd) : FnOk P w K mg base CX0 1 (He.fAd K ("_law_is_coordinate", none)) fd ["value"] (sp_law_is_coordinate K) := by
  refine F.ok sc_law_is_coordinate ln_law_is_coordinate (fun cdv A outer s H vs Q E hr h => ⟨t_law_is_coordinate K, PSs.nox ?_, pu_law_is_coordinate vs H Q E h⟩)
  exact (pss_one (ps_ret (ue_and (pe_callB (call_is1 .int) rfl T.b_isinstance boot_isinstance (pa_cons (uv 0) (pa_cons (pe_bltn rfl T.b_int (by decide +kernel) rfl) pa_nil))) (ue_and (ue_not (pe_callB (call_is1 .bl) rfl T.b_isinstance boot_isinstance (pa_cons (uv 0) (pa_cons (pe_bltn rfl T.b_bool (by decide +kernel) rfl) pa_nil)))) (pe_one (pe_cmpR uo_lt (pe_callB cu_abs rfl T.b_abs (by decide +kernel) (pa_cons (uv 0) pa_nil)) (pe_op uo_pow pe_int pe_int) (nomark _)))))))
theorem ok_law_is_coordinate {P : Program} {w : World} {K : PySem.W.Frag} {mg : Str → Option Value} {base : Heap} (T : Top K mg)  : ∃ fd, FnP K "_law_is_coordinate" "_law_is_coordinate" s_law_is_coordinate (He.fAd K ("_law_is_coordinate", none)) fd ∧ FnOk P w K mg base CX0 1 (He.fAd K ("_law_is_coordinate", none)) fd ["value"] (sp_law_is_coordinate K) :=
  let ⟨fd, F⟩ := T.d_law_is_coordinate
  ⟨fd, F, fk_law_is_coordinate T  F⟩
theorem cl_law_is_coordinate {P : Program} {w : World} {K : PySem.W.Frag} {mg : Str → Option Value} {base : Heap} (T : Top K mg) (h : ∃ fd, FnP K "_law_is_coordinate" "_law_is_coordinate" s_law_is_coordinate (He.fAd K ("_law_is_coordinate", none)) fd ∧ FnOk P w K mg base CX0 1 (He.fAd K ("_law_is_coordinate", none)) fd ["value"] (sp_law_is_coordinate K)) : Cal P w K mg base CX0 "_law_is_coordinate" 1 ["value"] (sp_law_is_coordinate K) := by
  obtain ⟨fd, F, h⟩ := h
  exact ⟨⟨fd, h, F.bindsN fun _ _ _ _ _ _ us hl => match us, hl with | [_], _ => rfl⟩, T.a_law_is_coordinate, F.kp⟩
theorem fk_law_same {P : Program} {w : World} {K : PySem.W.Frag} {mg : Str → Option Value} {base : Heap} (T : Top K mg)  {fd : FuncData} (F : FnP K "_law_same" "_law_same" s_law_same (He.fAd K ("_law_same", none)) fd) : FnOk P w K mg base CX0 1 (He.fAd K ("_law_same", none)) fd ["value", "due"] (sp_law_same K) := by
  refine F.ok sc_law_same ln_law_same (fun cdv A outer s H vs Q E hr h => ⟨t_law_same K, PSs.nox ?_, pu_law_same vs H Q E h⟩)
  exact (pss_cons (ps_if (PW.pt (pw_or (pt_not (ut (pe_callB (call_is1 .tup) rfl T.b_isinstance boot_isinstance (pa_cons (uv 0) (pa_cons (pe_bltn rfl T.b_tuple (by decide +kernel) rfl) pa_nil))))) (pw_or1 (utc (uo_ne hr.units) (pe_callB cu_len rfl T.b_len (by decide +kernel) (pa_cons (uv 0) pa_nil)) (pe_callB cu_len rfl T.b_len (by decide +kernel) (pa_cons (uv 1) pa_nil)) (nomark _))))) (pss_one (ps_ret pe_bl)) pss_nil)
    (pss_one (ps_ret (pe_callB (cu_all rfl) rfl T.b_all (by decide +kernel) (pa_cons (pe_lc (own := [("at", 2)]) rfl sc_law_same.nd (pi_range1 rfl T.b_range (pa_cons (pe_callB cu_len rfl T.b_len (by decide +kernel) (pa_cons (uv 1) pa_nil)) pa_nil)) (blkOk_by (own := [("at", 2)]) (by kernel_rfl)) (fun _ _ _ _ _ => (ugn 2 sc_law_same.nd)) (fun _ _ _ _ _ => pts_nil) (fun _ _ _ _ _ => (ue_and (pe_callB (call_is1 .int) rfl T.b_isinstance boot_isinstance (pa_cons (pe_ix (ux (hu_of hr)) (uv 0) (uv 2) (fun _ _ => rfl)) (pa_cons (pe_bltn rfl T.b_int (by decide +kernel) rfl) pa_nil))) (ue_and (ue_not (pe_callB (call_is1 .bl) rfl T.b_isinstance boot_isinstance (pa_cons (pe_ix (ux (hu_of hr)) (uv 0) (uv 2) (fun _ _ => rfl)) (pa_cons (pe_bltn rfl T.b_bool (by decide +kernel) rfl) pa_nil)))) (pe_one (pe_cmpR (uo_eq hr.units) (pe_ix (ux (hu_of hr)) (uv 0) (uv 2) (fun _ _ => rfl)) (pe_ix (ux (hu_of hr)) (uv 1) (uv 2) (fun _ _ => rfl)) (nomark _))))))) pa_nil)))))
theorem ok_law_same {P : Program} {w : World} {K : PySem.W.Frag} {mg : Str → Option Value} {base : Heap} (T : Top K mg)  : ∃ fd, FnP K "_law_same" "_law_same" s_law_same (He.fAd K ("_law_same", none)) fd ∧ FnOk P w K mg base CX0 1 (He.fAd K ("_law_same", none)) fd ["value", "due"] (sp_law_same K) :=
  let ⟨fd, F⟩ := T.d_law_same
  ⟨fd, F, fk_law_same T  F⟩
theorem cl_law_same {P : Program} {w : World} {K : PySem.W.Frag} {mg : Str → Option Value} {base : Heap} (T : Top K mg) (h : ∃ fd, FnP K "_law_same" "_law_same" s_law_same (He.fAd K ("_law_same", none)) fd ∧ FnOk P w K mg base CX0 1 (He.fAd K ("_law_same", none)) fd ["value", "due"] (sp_law_same K)) : Cal P w K mg base CX0 "_law_same" 1 ["value", "due"] (sp_law_same K) := by
  obtain ⟨fd, F, h⟩ := h
  exact ⟨⟨fd, h, F.bindsN fun _ _ _ _ _ _ us hl => match us, hl with | [_, _], _ => rfl⟩, T.a_law_same, F.kp⟩
theorem fk_is_within {P : Program} {w : World} {K : PySem.W.Frag} {mg : Str → Option Value} {base : Heap} (T : Top K mg) (g_is_integer : Cal P w K mg base CX0 "is_integer" 1 ["value"] (sp_is_integer K)) {fd : FuncData} (F : FnP K "is_within" "is_within" s_is_within (He.fAd K ("is_within", none)) fd) : FnOk P w K mg base CX0 2 (He.fAd K ("is_within", none)) fd ["value", "least", "most"] (sp_is_within K) := by
  refine F.ok sc_is_within ln_is_within (fun cdv A outer s H vs Q E hr h => ⟨t_is_within K, PSs.nox ?_, pu_is_within vs H Q E h⟩)
  exact (pss_one (ps_ret (ue_and (ucall g_is_integer (hr.mono (by decide)) rfl pass0 (pa_cons (uv 0) pa_nil)) (pe_one (ue_chain uo_le uo_le (uv 1) (uv 0) (uv 2))))))
theorem ok_is_within {P : Program} {w : World} {K : PySem.W.Frag} {mg : Str → Option Value} {base : Heap} (T : Top K mg) (g_is_integer : Cal P w K mg base CX0 "is_integer" 1 ["value"] (sp_is_integer K)) : ∃ fd, FnP K "is_within" "is_within" s_is_within (He.fAd K ("is_within", none)) fd ∧ FnOk P w K mg base CX0 2 (He.fAd K ("is_within", none)) fd ["value", "least", "most"] (sp_is_within K) :=
  let ⟨fd, F⟩ := T.d_is_within
  ⟨fd, F, fk_is_within T g_is_integer F⟩
theorem cl_is_within {P : Program} {w : World} {K : PySem.W.Frag} {mg : Str → Option Value} {base : Heap} (T : Top K mg) (h : ∃ fd, FnP K "is_within" "is_within" s_is_within (He.fAd K ("is_within", none)) fd ∧ FnOk P w K mg base CX0 2 (He.fAd K ("is_within", none)) fd ["value", "least", "most"] (sp_is_within K)) : Cal P w K mg base CX0 "is_within" 2 ["value", "least", "most"] (sp_is_within K) := by
  obtain ⟨fd, F, h⟩ := h
  exact ⟨⟨fd, h, F.bindsN fun _ _ _ _ _ _ us hl => match us, hl with | [_, _, _], _ => rfl⟩, T.a_is_within, F.kp⟩
theorem fk_line_between {P : Program} {w : World} {K : PySem.W.Frag} {mg : Str → Option Value} {base : Heap} (T : Top K mg) (g_speed_rows : Cal P w K mg base CX0 "speed_rows" 1 ["point"] (sp_speed_rows K)) {fd : FuncData} (F : FnP K "line_between" "line_between" s_line_between (He.fAd K ("line_between", none)) fd) : FnOk P w K mg base CX0 2 (He.fAd K ("line_between", none)) fd ["one", "other"] (sp_line_between K) := by
  refine F.ok sc_line_between ln_line_between (fun cdv A outer s H vs Q E hr h => ⟨t_line_between K, PSs.nox ?_, pu_line_between vs H Q E h⟩)
  exact (pss_cons (us_set 2 sc_line_between.nd (pe_lc (own := [("mine", 4), ("its", 5)]) rfl sc_line_between.nd (RZ.pi_zipA (by rfl) T.b_zip (pa_cons (uv 0) (pa_cons (uv 1) pa_nil))) (blkOk_by (own := [("mine", 4), ("its", 5)]) (by kernel_rfl)) (fun _ _ _ _ _ => (pg_tup (by rfl) (pgs_cons (ugn 4 sc_line_between.nd) (pgs_cons (ugn 5 sc_line_between.nd) pgs_nil)))) (fun _ _ _ _ _ => pts_nil) (fun _ _ _ _ _ => (pe_op uo_sub (uv 5) (uv 4)))))
    (pss_cons (us_set 3 sc_line_between.nd (ucall g_speed_rows (hr.mono (by decide)) rfl pass0 (pa_cons (uv 0) pa_nil)))
    (pss_one (ps_ret (pe_callTy cu_tup rfl T.b_tuple (by decide +kernel) (pa_cons (pe_lc (own := [("spot", 6)]) rfl sc_line_between.nd (pi_range1 rfl T.b_range (pa_cons (pe_callB cu_len rfl T.b_len (by decide +kernel) (pa_cons (pe_ix (ux (hu_of hr)) (uv 3) pe_int (fun _ _ => rfl)) pa_nil)) pa_nil)) (blkOk_by (own := [("spot", 6)]) (by kernel_rfl)) (fun _ _ _ _ _ => (ugn 6 sc_line_between.nd)) (fun _ _ _ _ _ => pts_nil) (fun _ _ _ _ _ => (pe_callB (cu_sum rfl) rfl T.b_sum (by decide +kernel) (pa_cons (pe_lc (own := [("at", 7), ("row", 8)]) rfl sc_line_between.nd (pi_enum (by rfl) T.b_enumerate (pa_cons (uv 3) pa_nil)) (blkOk_by (own := [("at", 7), ("row", 8)]) (by kernel_rfl)) (fun _ _ _ _ _ => (pg_tup (by rfl) (pgs_cons (ugn 7 sc_line_between.nd) (pgs_cons (ugn 8 sc_line_between.nd) pgs_nil)))) (fun _ _ _ _ _ => pts_nil) (fun _ _ _ _ _ => (pe_op uo_mulU (pe_ix (ux (hu_of hr)) (uv 2) (uv 7) (fun _ _ => rfl)) (pe_ix (ux (hu_of hr)) (uv 8) (uv 6) (fun _ _ => rfl))))) pa_nil)))) pa_nil))))))
theorem ok_line_between {P : Program} {w : World} {K : PySem.W.Frag} {mg : Str → Option Value} {base : Heap} (T : Top K mg) (g_speed_rows : Cal P w K mg base CX0 "speed_rows" 1 ["point"] (sp_speed_rows K)) : ∃ fd, FnP K "line_between" "line_between" s_line_between (He.fAd K ("line_between", none)) fd ∧ FnOk P w K mg base CX0 2 (He.fAd K ("line_between", none)) fd ["one", "other"] (sp_line_between K) :=
  let ⟨fd, F⟩ := T.d_line_between
  ⟨fd, F, fk_line_between T g_speed_rows F⟩
theorem cl_line_between {P : Program} {w : World} {K : PySem.W.Frag} {mg : Str → Option Value} {base : Heap} (T : Top K mg) (h : ∃ fd, FnP K "line_between" "line_between" s_line_between (He.fAd K ("line_between", none)) fd ∧ FnOk P w K mg base CX0 2 (He.fAd K ("line_between", none)) fd ["one", "other"] (sp_line_between K)) : Cal P w K mg base CX0 "line_between" 2 ["one", "other"] (sp_line_between K) := by
  obtain ⟨fd, F, h⟩ := h
  exact ⟨⟨fd, h, F.bindsN fun _ _ _ _ _ _ us hl => match us, hl with | [_, _], _ => rfl⟩, T.a_line_between, F.kp⟩
theorem fk_is_small_motion {P : Program} {w : World} {K : PySem.W.Frag} {mg : Str → Option Value} {base : Heap} (T : Top K mg) (g_is_integer : Cal P w K mg base CX0 "is_integer" 1 ["value"] (sp_is_integer K)) {fd : FuncData} (F : FnP K "is_small_motion" "is_small_motion" s_is_small_motion (He.fAd K ("is_small_motion", none)) fd) : FnOk P w K mg base CX0 2 (He.fAd K ("is_small_motion", none)) fd ["width", "value"] (sp_is_small_motion K) := by
  refine F.ok sc_is_small_motion ln_is_small_motion (fun cdv A outer s H vs Q E hr h => ⟨t_is_small_motion K, PSs.nox ?_, pu_is_small_motion vs H Q E h⟩)
  exact (pss_one (ps_ret (ue_and (pe_callB (call_is1 .tup) rfl T.b_isinstance boot_isinstance (pa_cons (uv 1) (pa_cons (pe_bltn rfl T.b_tuple (by decide +kernel) rfl) pa_nil))) (ue_and (pe_cmpR (uo_eq hr.units) (pe_callB cu_len rfl T.b_len (by decide +kernel) (pa_cons (uv 1) pa_nil)) (uv 0) (nomark _)) (pe_one (pe_callB (cu_all rfl) rfl T.b_all (by decide +kernel) (pa_cons (pe_lc (own := [("part", 2)]) rfl sc_is_small_motion.nd (ui (uv 1)) (blkOk_by (own := [("part", 2)]) (by kernel_rfl)) (fun _ _ _ _ _ => (ugn 2 sc_is_small_motion.nd)) (fun _ _ _ _ _ => pts_nil) (fun _ _ _ _ _ => (ucall g_is_integer (hr.mono (by decide)) rfl pass0 (pa_cons (uv 2) pa_nil)))) pa_nil)))))))
theorem ok_is_small_motion {P : Program} {w : World} {K : PySem.W.Frag} {mg : Str → Option Value} {base : Heap} (T : Top K mg) (g_is_integer : Cal P w K mg base CX0 "is_integer" 1 ["value"] (sp_is_integer K)) : ∃ fd, FnP K "is_small_motion" "is_small_motion" s_is_small_motion (He.fAd K ("is_small_motion", none)) fd ∧ FnOk P w K mg base CX0 2 (He.fAd K ("is_small_motion", none)) fd ["width", "value"] (sp_is_small_motion K) :=
  let ⟨fd, F⟩ := T.d_is_small_motion
  ⟨fd, F, fk_is_small_motion T g_is_integer F⟩
theorem cl_is_small_motion {P : Program} {w : World} {K : PySem.W.Frag} {mg : Str → Option Value} {base : Heap} (T : Top K mg) (h : ∃ fd, FnP K "is_small_motion" "is_small_motion" s_is_small_motion (He.fAd K ("is_small_motion", none)) fd ∧ FnOk P w K mg base CX0 2 (He.fAd K ("is_small_motion", none)) fd ["width", "value"] (sp_is_small_motion K)) : Cal P w K mg base CX0 "is_small_motion" 2 ["width", "value"] (sp_is_small_motion K) := by
  obtain ⟨fd, F, h⟩ := h
  exact ⟨⟨fd, h, F.bindsN fun _ _ _ _ _ _ us hl => match us, hl with | [_, _], _ => rfl⟩, T.a_is_small_motion, F.kp⟩
theorem fk_law_pick {P : Program} {w : World} {K : PySem.W.Frag} {mg : Str → Option Value} {base : Heap} (T : Top K mg) (g_law_draw : Cal P w K mg base CX0 "_law_draw" 1 ["pen", "many"] (sp_law_draw K)) {fd : FuncData} (F : FnP K "_law_pick" "_law_pick" s_law_pick (He.fAd K ("_law_pick", none)) fd) : FnOk P w K mg base CX0 2 (He.fAd K ("_law_pick", none)) fd ["pen", "some"] (sp_law_pick K) := by
  refine F.ok sc_law_pick ln_law_pick (fun cdv A outer s H vs Q E hr h => ⟨t_law_pick K, PSs.nox ?_, pu_law_pick vs H Q E h⟩)
  exact (pss_one (ps_ret (pe_ix (ux (hu_of hr)) (uv 1) (ucall g_law_draw (hr.mono (by decide)) rfl pass0 (pa_cons (uv 0) (pa_cons (pe_callB cu_len rfl T.b_len (by decide +kernel) (pa_cons (uv 1) pa_nil)) pa_nil))) (fun _ _ => rfl))))
theorem ok_law_pick {P : Program} {w : World} {K : PySem.W.Frag} {mg : Str → Option Value} {base : Heap} (T : Top K mg) (g_law_draw : Cal P w K mg base CX0 "_law_draw" 1 ["pen", "many"] (sp_law_draw K)) : ∃ fd, FnP K "_law_pick" "_law_pick" s_law_pick (He.fAd K ("_law_pick", none)) fd ∧ FnOk P w K mg base CX0 2 (He.fAd K ("_law_pick", none)) fd ["pen", "some"] (sp_law_pick K) :=
  let ⟨fd, F⟩ := T.d_law_pick
  ⟨fd, F, fk_law_pick T g_law_draw F⟩
theorem cl_law_pick {P : Program} {w : World} {K : PySem.W.Frag} {mg : Str → Option Value} {base : Heap} (T : Top K mg) (h : ∃ fd, FnP K "_law_pick" "_law_pick" s_law_pick (He.fAd K ("_law_pick", none)) fd ∧ FnOk P w K mg base CX0 2 (He.fAd K ("_law_pick", none)) fd ["pen", "some"] (sp_law_pick K)) : Cal P w K mg base CX0 "_law_pick" 2 ["pen", "some"] (sp_law_pick K) := by
  obtain ⟨fd, F, h⟩ := h
  exact ⟨⟨fd, h, F.bindsN fun _ _ _ _ _ _ us hl => match us, hl with | [_, _], _ => rfl⟩, T.a_law_pick, F.kp⟩
theorem fk_law_is_point {P : Program} {w : World} {K : PySem.W.Frag} {mg : Str → Option Value} {base : Heap} (T : Top K mg) (g_law_is_coordinate : Cal P w K mg base CX0 "_law_is_coordinate" 1 ["value"] (sp_law_is_coordinate K)) {fd : FuncData} (F : FnP K "_law_is_point" "_law_is_point" s_law_is_point (He.fAd K ("_law_is_point", none)) fd) : FnOk P w K mg base CX0 2 (He.fAd K ("_law_is_point", none)) fd ["dimension", "value"] (sp_law_is_point K) := by
  refine F.ok sc_law_is_point ln_law_is_point (fun cdv A outer s H vs Q E hr h => ⟨t_law_is_point K, PSs.nox ?_, pu_law_is_point vs H Q E h⟩)
  exact (pss_one (ps_ret (ue_and (pe_callB (call_is1 .tup) rfl T.b_isinstance boot_isinstance (pa_cons (uv 1) (pa_cons (pe_bltn rfl T.b_tuple (by decide +kernel) rfl) pa_nil))) (ue_and (pe_cmpR (uo_eq hr.units) (pe_callB cu_len rfl T.b_len (by decide +kernel) (pa_cons (uv 1) pa_nil)) (uv 0) (nomark _)) (pe_one (pe_callB (cu_all rfl) rfl T.b_all (by decide +kernel) (pa_cons (pe_lc (own := [("part", 2)]) rfl sc_law_is_point.nd (ui (uv 1)) (blkOk_by (own := [("part", 2)]) (by kernel_rfl)) (fun _ _ _ _ _ => (ugn 2 sc_law_is_point.nd)) (fun _ _ _ _ _ => pts_nil) (fun _ _ _ _ _ => (ucall g_law_is_coordinate (hr.mono (by decide)) rfl pass0 (pa_cons (uv 2) pa_nil)))) pa_nil)))))))
theorem ok_law_is_point {P : Program} {w : World} {K : PySem.W.Frag} {mg : Str → Option Value} {base : Heap} (T : Top K mg) (g_law_is_coordinate : Cal P w K mg base CX0 "_law_is_coordinate" 1 ["value"] (sp_law_is_coordinate K)) : ∃ fd, FnP K "_law_is_point" "_law_is_point" s_law_is_point (He.fAd K ("_law_is_point", none)) fd ∧ FnOk P w K mg base CX0 2 (He.fAd K ("_law_is_point", none)) fd ["dimension", "value"] (sp_law_is_point K) :=
  let ⟨fd, F⟩ := T.d_law_is_point
  ⟨fd, F, fk_law_is_point T g_law_is_coordinate F⟩
theorem cl_law_is_point {P : Program} {w : World} {K : PySem.W.Frag} {mg : Str → Option Value} {base : Heap} (T : Top K mg) (h : ∃ fd, FnP K "_law_is_point" "_law_is_point" s_law_is_point (He.fAd K ("_law_is_point", none)) fd ∧ FnOk P w K mg base CX0 2 (He.fAd K ("_law_is_point", none)) fd ["dimension", "value"] (sp_law_is_point K)) : Cal P w K mg base CX0 "_law_is_point" 2 ["dimension", "value"] (sp_law_is_point K) := by
  obtain ⟨fd, F, h⟩ := h
  exact ⟨⟨fd, h, F.bindsN fun _ _ _ _ _ _ us hl => match us, hl with | [_, _], _ => rfl⟩, T.a_law_is_point, F.kp⟩
theorem fk_coordinate {P : Program} {w : World} {K : PySem.W.Frag} {mg : Str → Option Value} {base : Heap} (T : Top K mg) (g_is_within : Cal P w K mg base CX0 "is_within" 2 ["value", "least", "most"] (sp_is_within K)) {fd : FuncData} (F : FnP K "coordinate" "coordinate" s_coordinate (He.fAd K ("coordinate", none)) fd) : FnOk P w K mg base CX0 3 (He.fAd K ("coordinate", none)) fd ["value"] (sp_coordinate K) := by
  refine F.ok sc_coordinate ln_coordinate (fun cdv A outer s H vs Q E hr h => ⟨t_coordinate K, PSs.nox ?_, pu_coordinate vs H Q E h⟩)
  exact (pss_one (ps_ret (ucall g_is_within (hr.mono (by decide)) rfl pass0 (pa_cons (uv 0) (pa_cons (pe_un uo_neg (ug_int T.c_MOST_COORDINATE rfl)) (pa_cons (ug_int T.c_MOST_COORDINATE rfl) pa_nil))))))
theorem ok_coordinate {P : Program} {w : World} {K : PySem.W.Frag} {mg : Str → Option Value} {base : Heap} (T : Top K mg) (g_is_within : Cal P w K mg base CX0 "is_within" 2 ["value", "least", "most"] (sp_is_within K)) : ∃ fd, FnP K "coordinate" "coordinate" s_coordinate (He.fAd K ("coordinate", none)) fd ∧ FnOk P w K mg base CX0 3 (He.fAd K ("coordinate", none)) fd ["value"] (sp_coordinate K) :=
  let ⟨fd, F⟩ := T.d_coordinate
  ⟨fd, F, fk_coordinate T g_is_within F⟩
theorem cl_coordinate {P : Program} {w : World} {K : PySem.W.Frag} {mg : Str → Option Value} {base : Heap} (T : Top K mg) (h : ∃ fd, FnP K "coordinate" "coordinate" s_coordinate (He.fAd K ("coordinate", none)) fd ∧ FnOk P w K mg base CX0 3 (He.fAd K ("coordinate", none)) fd ["value"] (sp_coordinate K)) : Cal P w K mg base CX0 "coordinate" 3 ["value"] (sp_coordinate K) := by
  obtain ⟨fd, F, h⟩ := h
  exact ⟨⟨fd, h, F.bindsN fun _ _ _ _ _ _ us hl => match us, hl with | [_], _ => rfl⟩, T.a_coordinate, F.kp⟩
theorem fk_need_dimension {P : Program} {w : World} {K : PySem.W.Frag} {mg : Str → Option Value} {base : Heap} (T : Top K mg) (g_is_within : Cal P w K mg base CX0 "is_within" 2 ["value", "least", "most"] (sp_is_within K)) (e_BadDimension : CalE P w K mg base "BadDimension" 1 ["self", "value"] ["value"]) {fd : FuncData} (F : FnP K "need_dimension" "need_dimension" s_need_dimension (He.fAd K ("need_dimension", none)) fd) : FnOk P w K mg base (L2.CX P w) 3 (He.fAd K ("need_dimension", none)) fd ["value"] (sp_need_dimension K) := by
  refine F.ok sc_need_dimension ln_need_dimension (fun cdv A outer s H vs Q E hr h => ⟨t_need_dimension K E, ?_, pu_need_dimension vs H Q E h⟩)
  exact (pss_one (ps_if (pt_not (ut (ucall g_is_within (hr.mono (by decide)) rfl pass0 (pa_cons (uv 0) (pa_cons pe_int (pa_cons (ug_int T.c_MOST_DIMENSION rfl) pa_nil)))))) (pss_one (ue_raise e_BadDimension (by decide) (hr.mono (by decide)) rfl (takes_of rfl rfl rfl rfl) rfl (pa_cons (uv 0) pa_nil))) pss_nil))
theorem ok_need_dimension {P : Program} {w : World} {K : PySem.W.Frag} {mg : Str → Option Value} {base : Heap} (T : Top K mg) (g_is_within : Cal P w K mg base CX0 "is_within" 2 ["value", "least", "most"] (sp_is_within K)) (e_BadDimension : CalE P w K mg base "BadDimension" 1 ["self", "value"] ["value"]) : ∃ fd, FnP K "need_dimension" "need_dimension" s_need_dimension (He.fAd K ("need_dimension", none)) fd ∧ FnOk P w K mg base (L2.CX P w) 3 (He.fAd K ("need_dimension", none)) fd ["value"] (sp_need_dimension K) :=
  let ⟨fd, F⟩ := T.d_need_dimension
  ⟨fd, F, fk_need_dimension T g_is_within e_BadDimension F⟩
theorem cl_need_dimension {P : Program} {w : World} {K : PySem.W.Frag} {mg : Str → Option Value} {base : Heap} (T : Top K mg) (h : ∃ fd, FnP K "need_dimension" "need_dimension" s_need_dimension (He.fAd K ("need_dimension", none)) fd ∧ FnOk P w K mg base (L2.CX P w) 3 (He.fAd K ("need_dimension", none)) fd ["value"] (sp_need_dimension K)) : Cal P w K mg base (L2.CX P w) "need_dimension" 3 ["value"] (sp_need_dimension K) := by
  obtain ⟨fd, F, h⟩ := h
  exact ⟨⟨fd, h, F.bindsN fun _ _ _ _ _ _ us hl => match us, hl with | [_], _ => rfl⟩, T.a_need_dimension, F.kp⟩
theorem fk_law_far {P : Program} {w : World} {K : PySem.W.Frag} {mg : Str → Option Value} {base : Heap} (T : Top K mg) (g_law_draw : Cal P w K mg base CX0 "_law_draw" 1 ["pen", "many"] (sp_law_draw K)) (g_law_pick : Cal P w K mg base CX0 "_law_pick" 2 ["pen", "some"] (sp_law_pick K)) {fd : FuncData} (F : FnP K "_law_far" "_law_far" s_law_far (He.fAd K ("_law_far", none)) fd) : FnOk P w K mg base CX0 3 (He.fAd K ("_law_far", none)) fd ["pen"] (sp_law_far K) := by
  refine F.ok sc_law_far ln_law_far (fun cdv A outer s H vs Q E hr h => ⟨t_law_far K, PSs.nox ?_, pu_law_far vs H Q E h⟩)
  exact (pss_cons (ps_if (utc (uo_eq hr.units) (ucall g_law_draw (hr.mono (by decide)) rfl pass0 (pa_cons (uv 0) (pa_cons pe_int pa_nil))) pe_int (nomark _)) (pss_one (ps_ret (ucall g_law_pick (hr.mono (by decide)) rfl pass0 (pa_cons (uv 0) (pa_cons (pe_lst (pa_cons pe_int (pa_cons (pe_un uo_neg pe_int) pa_nil))) pa_nil))))) pss_nil)
    (pss_one (ps_ret (pe_op uo_mulU (pe_op uo_sub pe_int (pe_op uo_mulU pe_int (ucall g_law_draw (hr.mono (by decide)) rfl pass0 (pa_cons (uv 0) (pa_cons pe_int pa_nil))))) (pe_op uo_addT (pe_op uo_mulU (ucall g_law_draw (hr.mono (by decide)) rfl pass0 (pa_cons (uv 0) (pa_cons (pe_op uo_pow pe_int pe_int) pa_nil))) (pe_op uo_pow pe_int pe_int)) (ucall g_law_draw (hr.mono (by decide)) rfl pass0 (pa_cons (uv 0) (pa_cons (pe_op uo_pow pe_int pe_int) pa_nil))))))))
theorem ok_law_far {P : Program} {w : World} {K : PySem.W.Frag} {mg : Str → Option Value} {base : Heap} (T : Top K mg) (g_law_draw : Cal P w K mg base CX0 "_law_draw" 1 ["pen", "many"] (sp_law_draw K)) (g_law_pick : Cal P w K mg base CX0 "_law_pick" 2 ["pen", "some"] (sp_law_pick K)) : ∃ fd, FnP K "_law_far" "_law_far" s_law_far (He.fAd K ("_law_far", none)) fd ∧ FnOk P w K mg base CX0 3 (He.fAd K ("_law_far", none)) fd ["pen"] (sp_law_far K) :=
  let ⟨fd, F⟩ := T.d_law_far
  ⟨fd, F, fk_law_far T g_law_draw g_law_pick F⟩
theorem cl_law_far {P : Program} {w : World} {K : PySem.W.Frag} {mg : Str → Option Value} {base : Heap} (T : Top K mg) (h : ∃ fd, FnP K "_law_far" "_law_far" s_law_far (He.fAd K ("_law_far", none)) fd ∧ FnOk P w K mg base CX0 3 (He.fAd K ("_law_far", none)) fd ["pen"] (sp_law_far K)) : Cal P w K mg base CX0 "_law_far" 3 ["pen"] (sp_law_far K) := by
  obtain ⟨fd, F, h⟩ := h
  exact ⟨⟨fd, h, F.bindsN fun _ _ _ _ _ _ us hl => match us, hl with | [_], _ => rfl⟩, T.a_law_far, F.kp⟩
theorem fk_law_is_spot {P : Program} {w : World} {K : PySem.W.Frag} {mg : Str → Option Value} {base : Heap} (T : Top K mg) (g_law_is_point : Cal P w K mg base CX0 "_law_is_point" 2 ["dimension", "value"] (sp_law_is_point K)) {fd : FuncData} (F : FnP K "_law_is_spot" "_law_is_spot" s_law_is_spot (He.fAd K ("_law_is_spot", none)) fd) : FnOk P w K mg base CX0 3 (He.fAd K ("_law_is_spot", none)) fd ["dimension", "kind", "value"] (sp_law_is_spot K) := by
  refine F.ok sc_law_is_spot ln_law_is_spot (fun cdv A outer s H vs Q E hr h => ⟨t_law_is_spot K, PSs.nox ?_, pu_law_is_spot vs H Q E h⟩)
  exact (pss_cons (us_set 3 sc_law_is_spot.nd (pe_ifExp (utc (uo_eq hr.units) (uv 1) pe_str (nomark _)) pe_int (pe_ifExp (utc (uo_eq hr.units) (uv 1) pe_str (nomark _)) (pe_op uo_sub (uv 0) pe_int) pe_int)))
    (pss_one (ps_ret (ue_and (pe_callB (call_is1 .tup) rfl T.b_isinstance boot_isinstance (pa_cons (uv 2) (pa_cons (pe_bltn rfl T.b_tuple (by decide +kernel) rfl) pa_nil))) (ue_and (pe_cmpR (uo_eq hr.units) (pe_callB cu_len rfl T.b_len (by decide +kernel) (pa_cons (uv 2) pa_nil)) (uv 3) (nomark _)) (pe_one (pe_callB (cu_all rfl) rfl T.b_all (by decide +kernel) (pa_cons (pe_lc (own := [("point", 4)]) rfl sc_law_is_spot.nd (ui (uv 2)) (blkOk_by (own := [("point", 4)]) (by kernel_rfl)) (fun _ _ _ _ _ => (ugn 4 sc_law_is_spot.nd)) (fun _ _ _ _ _ => pts_nil) (fun _ _ _ _ _ => (ucall g_law_is_point (hr.mono (by decide)) rfl pass0 (pa_cons (uv 0) (pa_cons (uv 4) pa_nil))))) pa_nil))))))))
theorem ok_law_is_spot {P : Program} {w : World} {K : PySem.W.Frag} {mg : Str → Option Value} {base : Heap} (T : Top K mg) (g_law_is_point : Cal P w K mg base CX0 "_law_is_point" 2 ["dimension", "value"] (sp_law_is_point K)) : ∃ fd, FnP K "_law_is_spot" "_law_is_spot" s_law_is_spot (He.fAd K ("_law_is_spot", none)) fd ∧ FnOk P w K mg base CX0 3 (He.fAd K ("_law_is_spot", none)) fd ["dimension", "kind", "value"] (sp_law_is_spot K) :=
  let ⟨fd, F⟩ := T.d_law_is_spot
  ⟨fd, F, fk_law_is_spot T g_law_is_point F⟩
theorem cl_law_is_spot {P : Program} {w : World} {K : PySem.W.Frag} {mg : Str → Option Value} {base : Heap} (T : Top K mg) (h : ∃ fd, FnP K "_law_is_spot" "_law_is_spot" s_law_is_spot (He.fAd K ("_law_is_spot", none)) fd ∧ FnOk P w K mg base CX0 3 (He.fAd K ("_law_is_spot", none)) fd ["dimension", "kind", "value"] (sp_law_is_spot K)) : Cal P w K mg base CX0 "_law_is_spot" 3 ["dimension", "kind", "value"] (sp_law_is_spot K) := by
  obtain ⟨fd, F, h⟩ := h
  exact ⟨⟨fd, h, F.bindsN fun _ _ _ _ _ _ us hl => match us, hl with | [_, _, _], _ => rfl⟩, T.a_law_is_spot, F.kp⟩
theorem fk_has_point_form {P : Program} {w : World} {K : PySem.W.Frag} {mg : Str → Option Value} {base : Heap} (T : Top K mg) (g_coordinate : Cal P w K mg base CX0 "coordinate" 3 ["value"] (sp_coordinate K)) {fd : FuncData} (F : FnP K "has_point_form" "has_point_form" s_has_point_form (He.fAd K ("has_point_form", none)) fd) : FnOk P w K mg base CX0 4 (He.fAd K ("has_point_form", none)) fd ["dimension", "value"] (sp_has_point_form K) := by
  refine F.ok sc_has_point_form ln_has_point_form (fun cdv A outer s H vs Q E hr h => ⟨t_has_point_form K, PSs.nox ?_, pu_has_point_form vs H Q E h⟩)
  exact (pss_cons (ps_if (PW.pt (pw_or (pt_not (ut (pe_callB (call_is1 .tup) rfl T.b_isinstance boot_isinstance (pa_cons (uv 1) (pa_cons (pe_bltn rfl T.b_tuple (by decide +kernel) rfl) pa_nil))))) (pw_or1 (utc (uo_ne hr.units) (pe_callB cu_len rfl T.b_len (by decide +kernel) (pa_cons (uv 1) pa_nil)) (uv 0) (nomark _))))) (pss_one (ps_ret pe_bl)) pss_nil)
    (pss_one (ps_ret (pe_callB (cu_all rfl) rfl T.b_all (by decide +kernel) (pa_cons (pe_lc (own := [("part", 2)]) rfl sc_has_point_form.nd (ui (uv 1)) (blkOk_by (own := [("part", 2)]) (by kernel_rfl)) (fun _ _ _ _ _ => (ugn 2 sc_has_point_form.nd)) (fun _ _ _ _ _ => pts_nil) (fun _ _ _ _ _ => (ucall g_coordinate (hr.mono (by decide)) rfl pass0 (pa_cons (uv 2) pa_nil)))) pa_nil)))))
theorem ok_has_point_form {P : Program} {w : World} {K : PySem.W.Frag} {mg : Str → Option Value} {base : Heap} (T : Top K mg) (g_coordinate : Cal P w K mg base CX0 "coordinate" 3 ["value"] (sp_coordinate K)) : ∃ fd, FnP K "has_point_form" "has_point_form" s_has_point_form (He.fAd K ("has_point_form", none)) fd ∧ FnOk P w K mg base CX0 4 (He.fAd K ("has_point_form", none)) fd ["dimension", "value"] (sp_has_point_form K) :=
  let ⟨fd, F⟩ := T.d_has_point_form
  ⟨fd, F, fk_has_point_form T g_coordinate F⟩
theorem cl_has_point_form {P : Program} {w : World} {K : PySem.W.Frag} {mg : Str → Option Value} {base : Heap} (T : Top K mg) (h : ∃ fd, FnP K "has_point_form" "has_point_form" s_has_point_form (He.fAd K ("has_point_form", none)) fd ∧ FnOk P w K mg base CX0 4 (He.fAd K ("has_point_form", none)) fd ["dimension", "value"] (sp_has_point_form K)) : Cal P w K mg base CX0 "has_point_form" 4 ["dimension", "value"] (sp_has_point_form K) := by
  obtain ⟨fd, F, h⟩ := h
  exact ⟨⟨fd, h, F.bindsN fun _ _ _ _ _ _ us hl => match us, hl with | [_, _], _ => rfl⟩, T.a_has_point_form, F.kp⟩
theorem fk_law_number {P : Program} {w : World} {K : PySem.W.Frag} {mg : Str → Option Value} {base : Heap} (T : Top K mg) (g_law_draw : Cal P w K mg base CX0 "_law_draw" 1 ["pen", "many"] (sp_law_draw K)) (g_law_far : Cal P w K mg base CX0 "_law_far" 3 ["pen"] (sp_law_far K)) (g_law_pick : Cal P w K mg base CX0 "_law_pick" 2 ["pen", "some"] (sp_law_pick K)) {fd : FuncData} (F : FnP K "_law_number" "_law_number" s_law_number (He.fAd K ("_law_number", none)) fd) : FnOk P w K mg base CX0 4 (He.fAd K ("_law_number", none)) fd ["pen"] (sp_law_number K) := by
  refine F.ok sc_law_number ln_law_number (fun cdv A outer s H vs Q E hr h => ⟨t_law_number K, PSs.nox ?_, pu_law_number vs H Q E h⟩)
  exact (pss_cons (us_set 1 sc_law_number.nd (ucall g_law_pick (hr.mono (by decide)) rfl pass0 (pa_cons (uv 0) (pa_cons (pe_lst (pa_cons pe_int (pa_cons pe_int (pa_cons (pe_op uo_pow pe_int pe_int) pa_nil)))) pa_nil))))
    (pss_cons (us_set 2 sc_law_number.nd (ucall g_law_pick (hr.mono (by decide)) rfl pass0 (pa_cons (uv 0) (pa_cons (pe_lst (pa_cons pe_int (pa_cons pe_int (pa_cons (pe_op uo_pow pe_int pe_int) (pa_cons (ucall g_law_far (hr.mono (by decide)) rfl pass0 (pa_cons (uv 0) pa_nil)) (pa_cons (pe_op uo_pow pe_int pe_int) pa_nil)))))) pa_nil))))
    (pss_cons (ps_par (i := 3) (j := 4) (by rfl) sc_law_number.nd rfl rfl (by decide) rfl rfl (pa_cons (ucall g_law_draw (hr.mono (by decide)) rfl pass0 (pa_cons (uv 0) (pa_cons pe_int pa_nil))) (pa_cons (pe_op uo_sub pe_int (pe_op uo_mulU pe_int (ucall g_law_draw (hr.mono (by decide)) rfl pass0 (pa_cons (uv 0) (pa_cons pe_int pa_nil))))) pa_nil)) (by rfl))
    (pss_one (ps_ret (pe_ifExp (utc (uo_eq hr.units) (uv 3) pe_int (nomark _)) (pe_op uo_mulU (uv 4) (uv 2)) (pe_op uo_sub (ucall g_law_draw (hr.mono (by decide)) rfl pass0 (pa_cons (uv 0) (pa_cons (pe_op uo_addT (pe_op uo_mulU pe_int (uv 1)) pe_int) pa_nil))) (uv 1))))))))
theorem ok_law_number {P : Program} {w : World} {K : PySem.W.Frag} {mg : Str → Option Value} {base : Heap} (T : Top K mg) (g_law_draw : Cal P w K mg base CX0 "_law_draw" 1 ["pen", "many"] (sp_law_draw K)) (g_law_far : Cal P w K mg base CX0 "_law_far" 3 ["pen"] (sp_law_far K)) (g_law_pick : Cal P w K mg base CX0 "_law_pick" 2 ["pen", "some"] (sp_law_pick K)) : ∃ fd, FnP K "_law_number" "_law_number" s_law_number (He.fAd K ("_law_number", none)) fd ∧ FnOk P w K mg base CX0 4 (He.fAd K ("_law_number", none)) fd ["pen"] (sp_law_number K) :=
  let ⟨fd, F⟩ := T.d_law_number
  ⟨fd, F, fk_law_number T g_law_draw g_law_far g_law_pick F⟩
theorem cl_law_number {P : Program} {w : World} {K : PySem.W.Frag} {mg : Str → Option Value} {base : Heap} (T : Top K mg) (h : ∃ fd, FnP K "_law_number" "_law_number" s_law_number (He.fAd K ("_law_number", none)) fd ∧ FnOk P w K mg base CX0 4 (He.fAd K ("_law_number", none)) fd ["pen"] (sp_law_number K)) : Cal P w K mg base CX0 "_law_number" 4 ["pen"] (sp_law_number K) := by
  obtain ⟨fd, F, h⟩ := h
  exact ⟨⟨fd, h, F.bindsN fun _ _ _ _ _ _ us hl => match us, hl with | [_], _ => rfl⟩, T.a_law_number, F.kp⟩
theorem fk_has_spot_form {P : Program} {w : World} {K : PySem.W.Frag} {mg : Str → Option Value} {base : Heap} (T : Top K mg) (g_has_point_form : Cal P w K mg base CX0 "has_point_form" 4 ["dimension", "value"] (sp_has_point_form K)) (g_points_in : Cal P w K mg base CX0 "points_in" 1 ["dimension", "kind"] (sp_points_in K)) {fd : FuncData} (F : FnP K "has_spot_form" "has_spot_form" s_has_spot_form (He.fAd K ("has_spot_form", none)) fd) : FnOk P w K mg base CX0 5 (He.fAd K ("has_spot_form", none)) fd ["dimension", "kind", "value"] (sp_has_spot_form K) := by
  refine F.ok sc_has_spot_form ln_has_spot_form (fun cdv A outer s H vs Q E hr h => ⟨t_has_spot_form K, PSs.nox ?_, pu_has_spot_form vs H Q E h⟩)
  exact (pss_cons (ps_if (PW.pt (pw_or (pt_not (ut (pe_callB (call_is1 .tup) rfl T.b_isinstance boot_isinstance (pa_cons (uv 2) (pa_cons (pe_bltn rfl T.b_tuple (by decide +kernel) rfl) pa_nil))))) (pw_or1 (utc (uo_ne hr.units) (pe_callB cu_len rfl T.b_len (by decide +kernel) (pa_cons (uv 2) pa_nil)) (ucall g_points_in (hr.mono (by decide)) rfl pass0 (pa_cons (uv 0) (pa_cons (uv 1) pa_nil))) (nomark _))))) (pss_one (ps_ret pe_bl)) pss_nil)
    (pss_one (ps_ret (pe_callB (cu_all rfl) rfl T.b_all (by decide +kernel) (pa_cons (pe_lc (own := [("point", 3)]) rfl sc_has_spot_form.nd (ui (uv 2)) (blkOk_by (own := [("point", 3)]) (by kernel_rfl)) (fun _ _ _ _ _ => (ugn 3 sc_has_spot_form.nd)) (fun _ _ _ _ _ => pts_nil) (fun _ _ _ _ _ => (ucall g_has_point_form (hr.mono (by decide)) rfl pass0 (pa_cons (uv 0) (pa_cons (uv 3) pa_nil))))) pa_nil)))))
theorem ok_has_spot_form {P : Program} {w : World} {K : PySem.W.Frag} {mg : Str → Option Value} {base : Heap} (T : Top K mg) (g_has_point_form : Cal P w K mg base CX0 "has_point_form" 4 ["dimension", "value"] (sp_has_point_form K)) (g_points_in : Cal P w K mg base CX0 "points_in" 1 ["dimension", "kind"] (sp_points_in K)) : ∃ fd, FnP K "has_spot_form" "has_spot_form" s_has_spot_form (He.fAd K ("has_spot_form", none)) fd ∧ FnOk P w K mg base CX0 5 (He.fAd K ("has_spot_form", none)) fd ["dimension", "kind", "value"] (sp_has_spot_form K) :=
  let ⟨fd, F⟩ := T.d_has_spot_form
  ⟨fd, F, fk_has_spot_form T g_has_point_form g_points_in F⟩
theorem cl_has_spot_form {P : Program} {w : World} {K : PySem.W.Frag} {mg : Str → Option Value} {base : Heap} (T : Top K mg) (h : ∃ fd, FnP K "has_spot_form" "has_spot_form" s_has_spot_form (He.fAd K ("has_spot_form", none)) fd ∧ FnOk P w K mg base CX0 5 (He.fAd K ("has_spot_form", none)) fd ["dimension", "kind", "value"] (sp_has_spot_form K)) : Cal P w K mg base CX0 "has_spot_form" 5 ["dimension", "kind", "value"] (sp_has_spot_form K) := by
  obtain ⟨fd, F, h⟩ := h
  exact ⟨⟨fd, h, F.bindsN fun _ _ _ _ _ _ us hl => match us, hl with | [_, _, _], _ => rfl⟩, T.a_has_spot_form, F.kp⟩
theorem fk_has_any_point_form {P : Program} {w : World} {K : PySem.W.Frag} {mg : Str → Option Value} {base : Heap} (T : Top K mg) (g_has_point_form : Cal P w K mg base CX0 "has_point_form" 4 ["dimension", "value"] (sp_has_point_form K)) {fd : FuncData} (F : FnP K "has_any_point_form" "has_any_point_form" s_has_any_point_form (He.fAd K ("has_any_point_form", none)) fd) : FnOk P w K mg base CX0 5 (He.fAd K ("has_any_point_form", none)) fd ["value"] (sp_has_any_point_form K) := by
  refine F.ok sc_has_any_point_form ln_has_any_point_form (fun cdv A outer s H vs Q E hr h => ⟨t_has_any_point_form K, PSs.nox ?_, pu_has_any_point_form vs H Q E h⟩)
  exact (pss_one (ps_ret (ue_and (pe_callB (call_is1 .tup) rfl T.b_isinstance boot_isinstance (pa_cons (uv 0) (pa_cons (pe_bltn rfl T.b_tuple (by decide +kernel) rfl) pa_nil))) (ue_and (ue_chain uo_le uo_le pe_int (pe_callB cu_len rfl T.b_len (by decide +kernel) (pa_cons (uv 0) pa_nil)) (ug_int T.c_MOST_DIMENSION rfl)) (pe_one (ucall g_has_point_form (hr.mono (by decide)) rfl pass0 (pa_cons (pe_callB cu_len rfl T.b_len (by decide +kernel) (pa_cons (uv 0) pa_nil)) (pa_cons (uv 0) pa_nil))))))))
theorem ok_has_any_point_form {P : Program} {w : World} {K : PySem.W.Frag} {mg : Str → Option Value} {base : Heap} (T : Top K mg) (g_has_point_form : Cal P w K mg base CX0 "has_point_form" 4 ["dimension", "value"] (sp_has_point_form K)) : ∃ fd, FnP K "has_any_point_form" "has_any_point_form" s_has_any_point_form (He.fAd K ("has_any_point_form", none)) fd ∧ FnOk P w K mg base CX0 5 (He.fAd K ("has_any_point_form", none)) fd ["value"] (sp_has_any_point_form K) :=
  let ⟨fd, F⟩ := T.d_has_any_point_form
  ⟨fd, F, fk_has_any_point_form T g_has_point_form F⟩
theorem cl_has_any_point_form {P : Program} {w : World} {K : PySem.W.Frag} {mg : Str → Option Value} {base : Heap} (T : Top K mg) (h : ∃ fd, FnP K "has_any_point_form" "has_any_point_form" s_has_any_point_form (He.fAd K ("has_any_point_form", none)) fd ∧ FnOk P w K mg base CX0 5 (He.fAd K ("has_any_point_form", none)) fd ["value"] (sp_has_any_point_form K)) : Cal P w K mg base CX0 "has_any_point_form" 5 ["value"] (sp_has_any_point_form K) := by
  obtain ⟨fd, F, h⟩ := h
  exact ⟨⟨fd, h, F.bindsN fun _ _ _ _ _ _ us hl => match us, hl with | [_], _ => rfl⟩, T.a_has_any_point_form, F.kp⟩
theorem fk_is_point {P : Program} {w : World} {K : PySem.W.Frag} {mg : Str → Option Value} {base : Heap} (T : Top K mg) (g_has_point_form : Cal P w K mg base CX0 "has_point_form" 4 ["dimension", "value"] (sp_has_point_form K)) (g_need_dimension : Cal P w K mg base (L2.CX P w) "need_dimension" 3 ["value"] (sp_need_dimension K)) {fd : FuncData} (F : FnP K "is_point" "is_point" s_is_point (He.fAd K ("is_point", none)) fd) : FnOk P w K mg base (L2.CX P w) 5 (He.fAd K ("is_point", none)) fd ["dimension", "value"] (sp_is_point K) := by
  refine F.ok sc_is_point ln_is_point (fun cdv A outer s H vs Q E hr h => ⟨t_is_point K E, ?_, pu_is_point vs H Q E h⟩)
  exact (pss_cons (ps_expr (ucall g_need_dimension (hr.mono (by decide)) rfl (passes_call (takes_of rfl rfl rfl rfl) (fun _ _ _ _ h => h)) (pa_cons (uv 0) pa_nil)))
    (pss_one (ps_ret (ucall g_has_point_form (hr.mono (by decide)) rfl pass0 (pa_cons (uv 0) (pa_cons (uv 1) pa_nil))))))
theorem ok_is_point {P : Program} {w : World} {K : PySem.W.Frag} {mg : Str → Option Value} {base : Heap} (T : Top K mg) (g_has_point_form : Cal P w K mg base CX0 "has_point_form" 4 ["dimension", "value"] (sp_has_point_form K)) (g_need_dimension : Cal P w K mg base (L2.CX P w) "need_dimension" 3 ["value"] (sp_need_dimension K)) : ∃ fd, FnP K "is_point" "is_point" s_is_point (He.fAd K ("is_point", none)) fd ∧ FnOk P w K mg base (L2.CX P w) 5 (He.fAd K ("is_point", none)) fd ["dimension", "value"] (sp_is_point K) :=
  let ⟨fd, F⟩ := T.d_is_point
  ⟨fd, F, fk_is_point T g_has_point_form g_need_dimension F⟩
theorem cl_is_point {P : Program} {w : World} {K : PySem.W.Frag} {mg : Str → Option Value} {base : Heap} (T : Top K mg) (h : ∃ fd, FnP K "is_point" "is_point" s_is_point (He.fAd K ("is_point", none)) fd ∧ FnOk P w K mg base (L2.CX P w) 5 (He.fAd K ("is_point", none)) fd ["dimension", "value"] (sp_is_point K)) : Cal P w K mg base (L2.CX P w) "is_point" 5 ["dimension", "value"] (sp_is_point K) := by
  obtain ⟨fd, F, h⟩ := h
  exact ⟨⟨fd, h, F.bindsN fun _ _ _ _ _ _ us hl => match us, hl with | [_, _], _ => rfl⟩, T.a_is_point, F.kp⟩
theorem fk_speed {P : Program} {w : World} {K : PySem.W.Frag} {mg : Str → Option Value} {base : Heap} (T : Top K mg) (g_has_point_form : Cal P w K mg base CX0 "has_point_form" 4 ["dimension", "value"] (sp_has_point_form K)) (g_is_small_motion : Cal P w K mg base CX0 "is_small_motion" 2 ["width", "value"] (sp_is_small_motion K)) (g_speed_rows : Cal P w K mg base CX0 "speed_rows" 1 ["point"] (sp_speed_rows K)) (g_times : Cal P w K mg base CX0 "times" 1 ["one", "other"] (sp_times K)) (e_BadNumber : CalE P w K mg base "BadNumber" 1 ["self", "part"] ["part"]) {fd : FuncData} (F : FnP K "speed" "speed" s_speed (He.fAd K ("speed", none)) fd) : FnOk P w K mg base (L2.CX P w) 5 (He.fAd K ("speed", none)) fd ["motion", "point"] (sp_speed K) := by
  refine F.ok sc_speed ln_speed (fun cdv A outer s H vs Q E hr h => ⟨t_speed K E, ?_, pu_speed T.ef vs H Q E h⟩)
  exact (pss_cons (ps_if (PW.pt (pw_or (pt_not (ut (pe_callB (call_is1 .tup) rfl T.b_isinstance boot_isinstance (pa_cons (uv 0) (pa_cons (pe_bltn rfl T.b_tuple (by decide +kernel) rfl) pa_nil))))) (pw_or (utc uo_ninI (pe_callB cu_len rfl T.b_len (by decide +kernel) (pa_cons (uv 0) pa_nil)) (ug_ref T.c_WIDTHS rfl) (by with_unfolding_all rfl)) (pw_or1 (pt_not (ut (ucall g_is_small_motion (hr.mono (by decide)) rfl pass0 (pa_cons (pe_callB cu_len rfl T.b_len (by decide +kernel) (pa_cons (uv 0) pa_nil)) (pa_cons (uv 0) pa_nil))))))))) (pss_one (ue_raise e_BadNumber (by decide) (hr.mono (by decide)) rfl (takes_of rfl rfl rfl rfl) rfl (pa_cons pe_str pa_nil))) pss_nil)
    (pss_cons (ps_if (pt_not (ut (ucall g_has_point_form (hr.mono (by decide)) rfl pass0 (pa_cons (pe_ix ux_I (ug_ref T.c_WIDTHS rfl) (pe_callB cu_len rfl T.b_len (by decide +kernel) (pa_cons (uv 0) pa_nil)) (fun _ _ => rfl)) (pa_cons (uv 1) pa_nil))))) (pss_one (ue_raise e_BadNumber (by decide) (hr.mono (by decide)) rfl (takes_of rfl rfl rfl rfl) rfl (pa_cons pe_str pa_nil))) pss_nil)
    (pss_one (ps_ret (pe_callTy cu_tup rfl T.b_tuple (by decide +kernel) (pa_cons (pe_lc (own := [("row", 2)]) rfl sc_speed.nd (ui (ucall g_speed_rows (hr.mono (by decide)) rfl pass0 (pa_cons (uv 1) pa_nil))) (blkOk_by (own := [("row", 2)]) (by kernel_rfl)) (fun _ _ _ _ _ => (ugn 2 sc_speed.nd)) (fun _ _ _ _ _ => pts_nil) (fun _ _ _ _ _ => (ucall g_times (hr.mono (by decide)) rfl pass0 (pa_cons (uv 2) (pa_cons (uv 0) pa_nil))))) pa_nil))))))
theorem ok_speed {P : Program} {w : World} {K : PySem.W.Frag} {mg : Str → Option Value} {base : Heap} (T : Top K mg) (g_has_point_form : Cal P w K mg base CX0 "has_point_form" 4 ["dimension", "value"] (sp_has_point_form K)) (g_is_small_motion : Cal P w K mg base CX0 "is_small_motion" 2 ["width", "value"] (sp_is_small_motion K)) (g_speed_rows : Cal P w K mg base CX0 "speed_rows" 1 ["point"] (sp_speed_rows K)) (g_times : Cal P w K mg base CX0 "times" 1 ["one", "other"] (sp_times K)) (e_BadNumber : CalE P w K mg base "BadNumber" 1 ["self", "part"] ["part"]) : ∃ fd, FnP K "speed" "speed" s_speed (He.fAd K ("speed", none)) fd ∧ FnOk P w K mg base (L2.CX P w) 5 (He.fAd K ("speed", none)) fd ["motion", "point"] (sp_speed K) :=
  let ⟨fd, F⟩ := T.d_speed
  ⟨fd, F, fk_speed T g_has_point_form g_is_small_motion g_speed_rows g_times e_BadNumber F⟩
theorem cl_speed {P : Program} {w : World} {K : PySem.W.Frag} {mg : Str → Option Value} {base : Heap} (T : Top K mg) (h : ∃ fd, FnP K "speed" "speed" s_speed (He.fAd K ("speed", none)) fd ∧ FnOk P w K mg base (L2.CX P w) 5 (He.fAd K ("speed", none)) fd ["motion", "point"] (sp_speed K)) : Cal P w K mg base (L2.CX P w) "speed" 5 ["motion", "point"] (sp_speed K) := by
  obtain ⟨fd, F, h⟩ := h
  exact ⟨⟨fd, h, F.bindsN fun _ _ _ _ _ _ us hl => match us, hl with | [_, _], _ => rfl⟩, T.a_speed, F.kp⟩
theorem fk_law_odd {P : Program} {w : World} {K : PySem.W.Frag} {mg : Str → Option Value} {base : Heap} (T : Top K mg) (g_law_draw : Cal P w K mg base CX0 "_law_draw" 1 ["pen", "many"] (sp_law_draw K)) (g_law_number : Cal P w K mg base CX0 "_law_number" 4 ["pen"] (sp_law_number K)) (g_law_pick : Cal P w K mg base CX0 "_law_pick" 2 ["pen", "some"] (sp_law_pick K)) {fd : FuncData} (F : FnP K "_law_odd" "_law_odd" s_law_odd (He.fAd K ("_law_odd", none)) fd) : FnOk P w K mg base CX0 5 (He.fAd K ("_law_odd", none)) fd ["pen", "dimension"] (sp_law_odd K) := by
  refine F.ok sc_law_odd ln_law_odd (fun cdv A outer s H vs Q E hr h => ⟨t_law_odd K, PSs.nox ?_, pu_law_odd vs H Q E h⟩)
  exact (pss_cons (us_set 2 sc_law_odd.nd (pe_callTy cu_tup rfl T.b_tuple (by decide +kernel) (pa_cons (pe_lc (own := [("at", 5)]) rfl sc_law_odd.nd (pi_range1 rfl T.b_range (pa_cons (uv 1) pa_nil)) (blkOk_by (own := [("at", 5)]) (by kernel_rfl)) (fun _ _ _ _ _ => (ugn 5 sc_law_odd.nd)) (fun _ _ _ _ _ => pts_nil) (fun _ _ _ _ _ => (ucall g_law_number (hr.mono (by decide)) rfl pass0 (pa_cons (uv 0) pa_nil)))) pa_nil)))
    (pss_cons (us_set 3 sc_law_odd.nd (ucall g_law_draw (hr.mono (by decide)) rfl pass0 (pa_cons (uv 0) (pa_cons (uv 1) pa_nil))))
    (pss_cons (us_set 4 sc_law_odd.nd (pe_lst (pa_cons (uv 2) (pa_cons (uv 2) (pa_cons (uv 2) (pa_cons (pe_callTy cu_list rfl T.b_list (by decide +kernel) (pa_cons (uv 2) pa_nil)) (pa_cons (pe_op uo_addT (uv 2) (pe_tup (pa_cons pe_int pa_nil))) (pa_cons (pe_slice us (uv 2) (upo pe_int) po_none) (pa_cons (pe_op uo_addT (pe_op uo_addT (pe_slice us (uv 2) po_none (upo (uv 3))) (pe_tup (pa_cons pe_bl pa_nil))) (pe_slice us (uv 2) (upo (pe_op uo_addT (uv 3) pe_int)) po_none)) pa_nil)))))))))
    (pss_cons (us_set 4 sc_law_odd.nd (pe_op uo_addT (uv 4) (pe_lst (pa_cons (pe_op uo_addT (pe_op uo_addT (pe_slice us (uv 2) po_none (upo (uv 3))) (pe_tup (pa_cons (pe_callTy cu_str rfl T.b_str (by decide +kernel) (pa_cons (pe_ix (ux (hu_of hr)) (uv 2) (uv 3) (fun _ _ => rfl)) pa_nil)) pa_nil))) (pe_slice us (uv 2) (upo (pe_op uo_addT (uv 3) pe_int)) po_none)) (pa_cons (pe_op uo_addT (pe_op uo_addT (pe_slice us (uv 2) po_none (upo (uv 3))) (pe_tup (pa_cons pe_non pa_nil))) (pe_slice us (uv 2) (upo (pe_op uo_addT (uv 3) pe_int)) po_none)) (pa_cons pe_non (pa_cons (pe_ix (ux (hu_of hr)) (uv 2) pe_int (fun _ _ => rfl)) (pa_cons (pe_tup (pa_cons (uv 2) pa_nil)) (pa_cons pe_str pa_nil)))))))))
    (pss_one (ps_ret (ucall g_law_pick (hr.mono (by decide)) rfl pass0 (pa_cons (uv 0) (pa_cons (uv 4) pa_nil)))))))))
theorem ok_law_odd {P : Program} {w : World} {K : PySem.W.Frag} {mg : Str → Option Value} {base : Heap} (T : Top K mg) (g_law_draw : Cal P w K mg base CX0 "_law_draw" 1 ["pen", "many"] (sp_law_draw K)) (g_law_number : Cal P w K mg base CX0 "_law_number" 4 ["pen"] (sp_law_number K)) (g_law_pick : Cal P w K mg base CX0 "_law_pick" 2 ["pen", "some"] (sp_law_pick K)) : ∃ fd, FnP K "_law_odd" "_law_odd" s_law_odd (He.fAd K ("_law_odd", none)) fd ∧ FnOk P w K mg base CX0 5 (He.fAd K ("_law_odd", none)) fd ["pen", "dimension"] (sp_law_odd K) :=
  let ⟨fd, F⟩ := T.d_law_odd
  ⟨fd, F, fk_law_odd T g_law_draw g_law_number g_law_pick F⟩
theorem cl_law_odd {P : Program} {w : World} {K : PySem.W.Frag} {mg : Str → Option Value} {base : Heap} (T : Top K mg) (h : ∃ fd, FnP K "_law_odd" "_law_odd" s_law_odd (He.fAd K ("_law_odd", none)) fd ∧ FnOk P w K mg base CX0 5 (He.fAd K ("_law_odd", none)) fd ["pen", "dimension"] (sp_law_odd K)) : Cal P w K mg base CX0 "_law_odd" 5 ["pen", "dimension"] (sp_law_odd K) := by
  obtain ⟨fd, F, h⟩ := h
  exact ⟨⟨fd, h, F.bindsN fun _ _ _ _ _ _ us hl => match us, hl with | [_, _], _ => rfl⟩, T.a_law_odd, F.kp⟩
theorem fk_is_spot {P : Program} {w : World} {K : PySem.W.Frag} {mg : Str → Option Value} {base : Heap} (T : Top K mg) (g_has_spot_form : Cal P w K mg base CX0 "has_spot_form" 5 ["dimension", "kind", "value"] (sp_has_spot_form K)) (g_kinds_in : Cal P w K mg base CX0 "kinds_in" 1 ["dimension"] (sp_kinds_in K)) (g_need_dimension : Cal P w K mg base (L2.CX P w) "need_dimension" 3 ["value"] (sp_need_dimension K)) (e_BadName : CalE P w K mg base "BadName" 1 ["self", "value"] ["value"]) {fd : FuncData} (F : FnP K "is_spot" "is_spot" s_is_spot (He.fAd K ("is_spot", none)) fd) : FnOk P w K mg base (L2.CX P w) 6 (He.fAd K ("is_spot", none)) fd ["dimension", "kind", "value"] (sp_is_spot K) := by
  refine F.ok sc_is_spot ln_is_spot (fun cdv A outer s H vs Q E hr h => ⟨t_is_spot K E, ?_, pu_is_spot vs H Q E h⟩)
  exact (pss_cons (ps_expr (ucall g_need_dimension (hr.mono (by decide)) rfl (passes_call (takes_of rfl rfl rfl rfl) (fun _ _ _ _ h => h)) (pa_cons (uv 0) pa_nil)))
    (pss_cons (ps_if (PW.pt (pw_or (pt_not (ut (pe_callB (call_is1 .str) rfl T.b_isinstance boot_isinstance (pa_cons (uv 1) (pa_cons (pe_bltn rfl T.b_str (by decide +kernel) rfl) pa_nil))))) (pw_or1 (utc (uo_ninU (hu65 hr)) (uv 1) (ucall g_kinds_in (hr.mono (by decide)) rfl pass0 (pa_cons (uv 0) pa_nil)) (by with_unfolding_all rfl))))) (pss_one (ue_raise e_BadName (by decide) (hr.mono (by decide)) rfl (takes_of rfl rfl rfl rfl) rfl (pa_cons (uv 1) pa_nil))) pss_nil)
    (pss_one (ps_ret (ucall g_has_spot_form (hr.mono (by decide)) rfl pass0 (pa_cons (uv 0) (pa_cons (uv 1) (pa_cons (uv 2) pa_nil))))))))
theorem ok_is_spot {P : Program} {w : World} {K : PySem.W.Frag} {mg : Str → Option Value} {base : Heap} (T : Top K mg) (g_has_spot_form : Cal P w K mg base CX0 "has_spot_form" 5 ["dimension", "kind", "value"] (sp_has_spot_form K)) (g_kinds_in : Cal P w K mg base CX0 "kinds_in" 1 ["dimension"] (sp_kinds_in K)) (g_need_dimension : Cal P w K mg base (L2.CX P w) "need_dimension" 3 ["value"] (sp_need_dimension K)) (e_BadName : CalE P w K mg base "BadName" 1 ["self", "value"] ["value"]) : ∃ fd, FnP K "is_spot" "is_spot" s_is_spot (He.fAd K ("is_spot", none)) fd ∧ FnOk P w K mg base (L2.CX P w) 6 (He.fAd K ("is_spot", none)) fd ["dimension", "kind", "value"] (sp_is_spot K) :=
  let ⟨fd, F⟩ := T.d_is_spot
  ⟨fd, F, fk_is_spot T g_has_spot_form g_kinds_in g_need_dimension e_BadName F⟩
theorem cl_is_spot {P : Program} {w : World} {K : PySem.W.Frag} {mg : Str → Option Value} {base : Heap} (T : Top K mg) (h : ∃ fd, FnP K "is_spot" "is_spot" s_is_spot (He.fAd K ("is_spot", none)) fd ∧ FnOk P w K mg base (L2.CX P w) 6 (He.fAd K ("is_spot", none)) fd ["dimension", "kind", "value"] (sp_is_spot K)) : Cal P w K mg base (L2.CX P w) "is_spot" 6 ["dimension", "kind", "value"] (sp_is_spot K) := by
  obtain ⟨fd, F, h⟩ := h
  exact ⟨⟨fd, h, F.bindsN fun _ _ _ _ _ _ us hl => match us, hl with | [_, _, _], _ => rfl⟩, T.a_is_spot, F.kp⟩
theorem fk_line {P : Program} {w : World} {K : PySem.W.Frag} {mg : Str → Option Value} {base : Heap} (T : Top K mg) (g_has_any_point_form : Cal P w K mg base CX0 "has_any_point_form" 5 ["value"] (sp_has_any_point_form K)) (g_has_point_form : Cal P w K mg base CX0 "has_point_form" 4 ["dimension", "value"] (sp_has_point_form K)) (g_line_between : Cal P w K mg base CX0 "line_between" 2 ["one", "other"] (sp_line_between K)) (e_BadNumber : CalE P w K mg base "BadNumber" 1 ["self", "part"] ["part"]) {fd : FuncData} (F : FnP K "line" "line" s_line (He.fAd K ("line", none)) fd) : FnOk P w K mg base (L2.CX P w) 6 (He.fAd K ("line", none)) fd ["one", "other"] (sp_line K) := by
  refine F.ok sc_line ln_line (fun cdv A outer s H vs Q E hr h => ⟨t_line K E, ?_, pu_line vs H Q E h⟩)
  exact (pss_cons (ps_if (pt_not (ut (ucall g_has_any_point_form (hr.mono (by decide)) rfl pass0 (pa_cons (uv 0) pa_nil)))) (pss_one (ue_raise e_BadNumber (by decide) (hr.mono (by decide)) rfl (takes_of rfl rfl rfl rfl) rfl (pa_cons pe_str pa_nil))) pss_nil)
    (pss_cons (ps_if (pt_not (ut (ucall g_has_point_form (hr.mono (by decide)) rfl pass0 (pa_cons (pe_callB cu_len rfl T.b_len (by decide +kernel) (pa_cons (uv 0) pa_nil)) (pa_cons (uv 1) pa_nil))))) (pss_one (ue_raise e_BadNumber (by decide) (hr.mono (by decide)) rfl (takes_of rfl rfl rfl rfl) rfl (pa_cons pe_str pa_nil))) pss_nil)
    (pss_one (ps_ret (ucall g_line_between (hr.mono (by decide)) rfl pass0 (pa_cons (uv 0) (pa_cons (uv 1) pa_nil)))))))
theorem ok_line {P : Program} {w : World} {K : PySem.W.Frag} {mg : Str → Option Value} {base : Heap} (T : Top K mg) (g_has_any_point_form : Cal P w K mg base CX0 "has_any_point_form" 5 ["value"] (sp_has_any_point_form K)) (g_has_point_form : Cal P w K mg base CX0 "has_point_form" 4 ["dimension", "value"] (sp_has_point_form K)) (g_line_between : Cal P w K mg base CX0 "line_between" 2 ["one", "other"] (sp_line_between K)) (e_BadNumber : CalE P w K mg base "BadNumber" 1 ["self", "part"] ["part"]) : ∃ fd, FnP K "line" "line" s_line (He.fAd K ("line", none)) fd ∧ FnOk P w K mg base (L2.CX P w) 6 (He.fAd K ("line", none)) fd ["one", "other"] (sp_line K) :=
  let ⟨fd, F⟩ := T.d_line
  ⟨fd, F, fk_line T g_has_any_point_form g_has_point_form g_line_between e_BadNumber F⟩
theorem cl_line {P : Program} {w : World} {K : PySem.W.Frag} {mg : Str → Option Value} {base : Heap} (T : Top K mg) (h : ∃ fd, FnP K "line" "line" s_line (He.fAd K ("line", none)) fd ∧ FnOk P w K mg base (L2.CX P w) 6 (He.fAd K ("line", none)) fd ["one", "other"] (sp_line K)) : Cal P w K mg base (L2.CX P w) "line" 6 ["one", "other"] (sp_line K) := by
  obtain ⟨fd, F, h⟩ := h
  exact ⟨⟨fd, h, F.bindsN fun _ _ _ _ _ _ us hl => match us, hl with | [_, _], _ => rfl⟩, T.a_line, F.kp⟩
theorem fk_law_looks_right {P : Program} {w : World} {K : PySem.W.Frag} {mg : Str → Option Value} {base : Heap} (T : Top K mg) (g_law_draw : Cal P w K mg base CX0 "_law_draw" 1 ["pen", "many"] (sp_law_draw K)) (g_law_is_coordinate : Cal P w K mg base CX0 "_law_is_coordinate" 1 ["value"] (sp_law_is_coordinate K)) (g_law_is_point : Cal P w K mg base CX0 "_law_is_point" 2 ["dimension", "value"] (sp_law_is_point K)) (g_law_is_spot : Cal P w K mg base CX0 "_law_is_spot" 3 ["dimension", "kind", "value"] (sp_law_is_spot K)) (g_law_number : Cal P w K mg base CX0 "_law_number" 4 ["pen"] (sp_law_number K)) (g_law_odd : Cal P w K mg base CX0 "_law_odd" 5 ["pen", "dimension"] (sp_law_odd K)) (g_law_pick : Cal P w K mg base CX0 "_law_pick" 2 ["pen", "some"] (sp_law_pick K)) (g_law_says : Cal P w K mg base CX0 "_law_says" 1 ["value", "due"] (sp_law_says K)) (g_coordinate : Cal P w K mg base CX0 "coordinate" 3 ["value"] (sp_coordinate K)) (g_is_point : Cal P w K mg base (L2.CX P w) "is_point" 5 ["dimension", "value"] (sp_is_point K)) (g_is_spot : Cal P w K mg base (L2.CX P w) "is_spot" 6 ["dimension", "kind", "value"] (sp_is_spot K)) (k_is_point_value_dimension : CalK P w K mg base (L2.CX P w) "is_point" 5 ["dimension", "value"] ["value", "dimension"] [1, 0] (sp_is_point K)) (k_is_spot_value_kind_dimension : CalK P w K mg base (L2.CX P w) "is_spot" 6 ["dimension", "kind", "value"] ["value", "kind", "dimension"] [2, 1, 0] (sp_is_spot K)) {fd : FuncData} (F : FnP K "_law_looks_right" "_law_looks_right" s_law_looks_right (He.fAd K ("_law_looks_right", none)) fd) : FnOk P w K mg base CX0 7 (He.fAd K ("_law_looks_right", none)) fd ["pen", "dimension"] (sp_law_looks_right K) := by
  refine F.ok sc_law_looks_right ln_law_looks_right (fun cdv A outer s H vs Q E hr h => ⟨t_law_looks_right K, PSs.nox ?_, pu_law_looks_right vs H Q E h⟩)
  exact (pss_cons (ps_par (i := 2) (j := 3) (by rfl) sc_law_looks_right.nd rfl rfl (by decide) rfl rfl (pa_cons (ucall g_law_pick (hr.mono (by decide)) rfl pass0 (pa_cons (uv 0) (pa_cons (pe_lst (pa_cons (ucall g_law_number (hr.mono (by decide)) rfl pass0 (pa_cons (uv 0) pa_nil)) (pa_cons (ucall g_law_number (hr.mono (by decide)) rfl pass0 (pa_cons (uv 0) pa_nil)) (pa_cons pe_bl (pa_cons pe_non (pa_cons pe_str (pa_cons (pe_tup (pa_cons pe_int pa_nil)) pa_nil))))))) pa_nil))) (pa_cons (ucall g_law_odd (hr.mono (by decide)) rfl pass0 (pa_cons (uv 0) (pa_cons (uv 1) pa_nil))) pa_nil)) (by rfl))
    (pss_cons (ps_if (PW.pt (pw_or (pt_not (ut (ucall g_law_says (hr.mono (by decide)) rfl pass0 (pa_cons (ucall g_coordinate (hr.mono (by decide)) rfl pass0 (pa_cons (uv 2) pa_nil)) (pa_cons (ucall g_law_is_coordinate (hr.mono (by decide)) rfl pass0 (pa_cons (uv 2) pa_nil)) pa_nil))))) (pw_or1 (pt_not (ut (ucall g_law_says (hr.mono (by decide)) rfl pass0 (pa_cons (ucall g_coordinate (hr.mono (by decide)) rfl pass0 (pa_cons (uv 3) pa_nil)) (pa_cons (ucall g_law_is_coordinate (hr.mono (by decide)) rfl pass0 (pa_cons (uv 3) pa_nil)) pa_nil)))))))) (pss_one (ps_ret pe_bl)) pss_nil)
    (pss_cons (ps_if (pt_not (ut (ucall g_law_says (hr.mono (by decide)) rfl pass0 (pa_cons (ucall g_is_point (hr.mono (by decide)) rfl passL (pa_cons (uv 1) (pa_cons (uv 3) pa_nil))) (pa_cons (ucall g_law_is_point (hr.mono (by decide)) rfl pass0 (pa_cons (uv 1) (pa_cons (uv 3) pa_nil))) pa_nil))))) (pss_one (ps_ret pe_bl)) pss_nil)
    (pss_cons (ps_for PassesOwn.never rfl (ui (pe_slice us (pe_lst (pa_cons pe_str (pa_cons pe_str (pa_cons pe_str pa_nil)))) po_none (upo (pe_op uo_addT (uv 1) pe_int)))) (ugn 4 sc_law_looks_right.nd) (pss_one (ps_if (PW.pt (pw_or (utc uo_gt (uv 1) pe_int (nomark _)) (pw_or1 (utc (uo_eq hr.units) (uv 4) pe_str (nomark _))))) (pss_cons (us_set 5 sc_law_looks_right.nd (pe_callTy cu_tup rfl T.b_tuple (by decide +kernel) (pa_cons (pe_lc (own := [("turn", 9)]) rfl sc_law_looks_right.nd (pi_range1 rfl T.b_range (pa_cons (ucall g_law_draw (hr.mono (by decide)) rfl pass0 (pa_cons (uv 0) (pa_cons pe_int pa_nil))) pa_nil)) (blkOk_by (own := [("turn", 9)]) (by kernel_rfl)) (fun _ _ _ _ _ => (ugn 9 sc_law_looks_right.nd)) (fun _ _ _ _ _ => pts_nil) (fun _ _ _ _ _ => (pe_callTy cu_tup rfl T.b_tuple (by decide +kernel) (pa_cons (pe_lc (own := [("at", 10)]) rfl sc_law_looks_right.nd (pi_range1 rfl T.b_range (pa_cons (uv 1) pa_nil)) (blkOk_by (own := [("at", 10)]) (by kernel_rfl)) (fun _ _ _ _ _ => (ugn 10 sc_law_looks_right.nd)) (fun _ _ _ _ _ => pts_nil) (fun _ _ _ _ _ => (pe_op uo_sub (ucall g_law_draw (hr.mono (by decide)) rfl pass0 (pa_cons (uv 0) (pa_cons pe_int pa_nil))) pe_int))) pa_nil)))) pa_nil)))
    (pss_cons (us_set 6 sc_law_looks_right.nd (pe_op uo_mulU (pe_slice us (uv 5) po_none (upo pe_int)) (pe_ifExp (utc (uo_eq hr.units) (uv 4) pe_str (nomark _)) pe_int (pe_ifExp (utc (uo_eq hr.units) (uv 4) pe_str (nomark _)) (pe_op uo_sub (uv 1) pe_int) pe_int))))
    (pss_cons (us_set 7 sc_law_looks_right.nd (pe_lst (pa_cons (uv 5) (pa_cons (uv 6) (pa_cons (pe_op uo_addT (pe_slice us (uv 6) (upo pe_int) po_none) (pe_tup (pa_cons (uv 3) pa_nil))) (pa_cons (pe_op uo_addT (pe_tup (pa_cons (uv 3) pa_nil)) (pe_slice us (uv 6) (upo pe_int) po_none)) (pa_cons (pe_callTy cu_list rfl T.b_list (by decide +kernel) (pa_cons (uv 6) pa_nil)) (pa_cons (pe_op uo_addT (uv 6) (pe_slice us (uv 5) po_none (upo pe_int))) (pa_cons pe_non (pa_cons pe_dnewK (pa_cons (uv 4) pa_nil)))))))))))
    (pss_one (ps_for PassesOwn.never rfl (ui (uv 7)) (ugn 8 sc_law_looks_right.nd) (pss_one (ps_if (pt_not (ut (ucall g_law_says (hr.mono (by decide)) rfl pass0 (pa_cons (ucall g_is_spot (hr.mono (by decide)) rfl passL (pa_cons (uv 1) (pa_cons (uv 4) (pa_cons (uv 8) pa_nil)))) (pa_cons (ucall g_law_is_spot (hr.mono (by decide)) rfl pass0 (pa_cons (uv 1) (pa_cons (uv 4) (pa_cons (uv 8) pa_nil)))) pa_nil))))) (pss_one (ps_ret pe_bl)) pss_nil))))))) pss_nil)))
    (pss_one (ps_ret (ue_and (pe_cmpR uo_is (ucallk0 k_is_spot_value_kind_dimension (hr.mono (by decide)) rfl passL (pk_cons (pe_tup pa_nil) (pk_cons pe_str (pk_cons (uv 1) pk_nil)))) pe_bl (nomark _)) (pe_one (pe_cmpR uo_is (ucallk0 k_is_point_value_dimension (hr.mono (by decide)) rfl passL (pk_cons (pe_op uo_mulU (pe_tup (pa_cons pe_int pa_nil)) (uv 1)) (pk_cons (uv 1) pk_nil))) pe_bl (nomark _))))))))))
theorem ok_law_looks_right {P : Program} {w : World} {K : PySem.W.Frag} {mg : Str → Option Value} {base : Heap} (T : Top K mg) (g_law_draw : Cal P w K mg base CX0 "_law_draw" 1 ["pen", "many"] (sp_law_draw K)) (g_law_is_coordinate : Cal P w K mg base CX0 "_law_is_coordinate" 1 ["value"] (sp_law_is_coordinate K)) (g_law_is_point : Cal P w K mg base CX0 "_law_is_point" 2 ["dimension", "value"] (sp_law_is_point K)) (g_law_is_spot : Cal P w K mg base CX0 "_law_is_spot" 3 ["dimension", "kind", "value"] (sp_law_is_spot K)) (g_law_number : Cal P w K mg base CX0 "_law_number" 4 ["pen"] (sp_law_number K)) (g_law_odd : Cal P w K mg base CX0 "_law_odd" 5 ["pen", "dimension"] (sp_law_odd K)) (g_law_pick : Cal P w K mg base CX0 "_law_pick" 2 ["pen", "some"] (sp_law_pick K)) (g_law_says : Cal P w K mg base CX0 "_law_says" 1 ["value", "due"] (sp_law_says K)) (g_coordinate : Cal P w K mg base CX0 "coordinate" 3 ["value"] (sp_coordinate K)) (g_is_point : Cal P w K mg base (L2.CX P w) "is_point" 5 ["dimension", "value"] (sp_is_point K)) (g_is_spot : Cal P w K mg base (L2.CX P w) "is_spot" 6 ["dimension", "kind", "value"] (sp_is_spot K)) (k_is_point_value_dimension : CalK P w K mg base (L2.CX P w) "is_point" 5 ["dimension", "value"] ["value", "dimension"] [1, 0] (sp_is_point K)) (k_is_spot_value_kind_dimension : CalK P w K mg base (L2.CX P w) "is_spot" 6 ["dimension", "kind", "value"] ["value", "kind", "dimension"] [2, 1, 0] (sp_is_spot K)) : ∃ fd, FnP K "_law_looks_right" "_law_looks_right" s_law_looks_right (He.fAd K ("_law_looks_right", none)) fd ∧ FnOk P w K mg base CX0 7 (He.fAd K ("_law_looks_right", none)) fd ["pen", "dimension"] (sp_law_looks_right K) :=
  let ⟨fd, F⟩ := T.d_law_looks_right
  ⟨fd, F, fk_law_looks_right T g_law_draw g_law_is_coordinate g_law_is_point g_law_is_spot g_law_number g_law_odd g_law_pick g_law_says g_coordinate g_is_point g_is_spot k_is_point_value_dimension k_is_spot_value_kind_dimension F⟩
theorem cl_law_looks_right {P : Program} {w : World} {K : PySem.W.Frag} {mg : Str → Option Value} {base : Heap} (T : Top K mg) (h : ∃ fd, FnP K "_law_looks_right" "_law_looks_right" s_law_looks_right (He.fAd K ("_law_looks_right", none)) fd ∧ FnOk P w K mg base CX0 7 (He.fAd K ("_law_looks_right", none)) fd ["pen", "dimension"] (sp_law_looks_right K)) : Cal P w K mg base CX0 "_law_looks_right" 7 ["pen", "dimension"] (sp_law_looks_right K) := by
  obtain ⟨fd, F, h⟩ := h
  exact ⟨⟨fd, h, F.bindsN fun _ _ _ _ _ _ us hl => match us, hl with | [_, _], _ => rfl⟩, T.a_law_looks_right, F.kp⟩
theorem fk_law_numbers_right {P : Program} {w : World} {K : PySem.W.Frag} {mg : Str → Option Value} {base : Heap} (T : Top K mg) (g_law_draw : Cal P w K mg base CX0 "_law_draw" 1 ["pen", "many"] (sp_law_draw K)) (g_law_far : Cal P w K mg base CX0 "_law_far" 3 ["pen"] (sp_law_far K)) (g_law_number : Cal P w K mg base CX0 "_law_number" 4 ["pen"] (sp_law_number K)) (g_law_pick : Cal P w K mg base CX0 "_law_pick" 2 ["pen", "some"] (sp_law_pick K)) (g_law_same : Cal P w K mg base CX0 "_law_same" 1 ["value", "due"] (sp_law_same K)) (g_law_speed : Cal P w K mg base CX0 "_law_speed" 1 ["motion", "point"] (sp_law_speed K)) (g_law_units : Cal P w K mg base CX0 "_law_units" 1 ["width"] (sp_law_units K)) (g_line : Cal P w K mg base (L2.CX P w) "line" 6 ["one", "other"] (sp_line K)) (g_speed : Cal P w K mg base (L2.CX P w) "speed" 5 ["motion", "point"] (sp_speed K)) (k_line_other_one : CalK P w K mg base (L2.CX P w) "line" 6 ["one", "other"] ["other", "one"] [1, 0] (sp_line K)) (k_speed_point_motion : CalK P w K mg base (L2.CX P w) "speed" 5 ["motion", "point"] ["point", "motion"] [1, 0] (sp_speed K)) {fd : FuncData} (F : FnP K "_law_numbers_right" "_law_numbers_right" s_law_numbers_right (He.fAd K ("_law_numbers_right", none)) fd) : FnOk P w K mg base CX0 7 (He.fAd K ("_law_numbers_right", none)) fd ["pen", "dimension"] (sp_law_numbers_right K) := by
  refine F.ok sc_law_numbers_right ln_law_numbers_right (fun cdv A outer s H vs Q E hr h => ⟨t_law_numbers_right K, PSs.nox ?_, pu_law_numbers_right vs H Q E h⟩)
  exact (pss_cons (us_set 2 sc_law_numbers_right.nd (ucall g_law_pick (hr.mono (by decide)) rfl pass0 (pa_cons (uv 0) (pa_cons (pe_lst (pa_cons pe_int (pa_cons (pe_op uo_pow pe_int pe_int) (pa_cons pe_int pa_nil)))) pa_nil))))
    (pss_cons (us_set 3 sc_law_numbers_right.nd (pe_callTy cu_tup rfl T.b_tuple (by decide +kernel) (pa_cons (pe_lc (own := [("at", 12)]) rfl sc_law_numbers_right.nd (pi_range1 rfl T.b_range (pa_cons (uv 1) pa_nil)) (blkOk_by (own := [("at", 12)]) (by kernel_rfl)) (fun _ _ _ _ _ => (ugn 12 sc_law_numbers_right.nd)) (fun _ _ _ _ _ => pts_nil) (fun _ _ _ _ _ => (pe_ifExp (utc uo_gt (uv 2) pe_int (nomark _)) (pe_op uo_sub (ucall g_law_draw (hr.mono (by decide)) rfl pass0 (pa_cons (uv 0) (pa_cons (pe_op uo_addT (pe_op uo_mulU pe_int (uv 2)) pe_int) pa_nil))) (uv 2)) (ucall g_law_far (hr.mono (by decide)) rfl pass0 (pa_cons (uv 0) pa_nil))))) pa_nil)))
    (pss_cons (us_set 4 sc_law_numbers_right.nd (pe_callTy cu_tup rfl T.b_tuple (by decide +kernel) (pa_cons (pe_lc (own := [("at", 12)]) rfl sc_law_numbers_right.nd (pi_range1 rfl T.b_range (pa_cons (uv 1) pa_nil)) (blkOk_by (own := [("at", 12)]) (by kernel_rfl)) (fun _ _ _ _ _ => (ugn 12 sc_law_numbers_right.nd)) (fun _ _ _ _ _ => pts_nil) (fun _ _ _ _ _ => (pe_ifExp (utc uo_gt (uv 2) pe_int (nomark _)) (pe_op uo_sub (ucall g_law_draw (hr.mono (by decide)) rfl pass0 (pa_cons (uv 0) (pa_cons (pe_op uo_addT (pe_op uo_mulU pe_int (uv 2)) pe_int) pa_nil))) (uv 2)) (ucall g_law_far (hr.mono (by decide)) rfl pass0 (pa_cons (uv 0) pa_nil))))) pa_nil)))
    (pss_cons (ps_asg (pe_tup (pa_cons (pe_op uo_div (pe_op uo_mulU (uv 1) (pe_op uo_addT (uv 1) pe_int)) pe_int) (pa_cons (pe_lc (own := [("at", 12)]) rfl sc_law_numbers_right.nd (pi_range1 rfl T.b_range (pa_cons (uv 1) pa_nil)) (blkOk_by (own := [("at", 12)]) (by kernel_rfl)) (fun _ _ _ _ _ => (ugn 12 sc_law_numbers_right.nd)) (fun _ _ _ _ _ => pts_nil) (fun _ _ _ _ _ => (pe_op uo_sub (pe_ix (ux (hu_of hr)) (uv 4) (uv 12) (fun _ _ => rfl)) (pe_ix (ux (hu_of hr)) (uv 3) (uv 12) (fun _ _ => rfl))))) pa_nil))) (pg_tup (by rfl) (pgs_cons (ugn 5 sc_law_numbers_right.nd) (pgs_cons (ugn 6 sc_law_numbers_right.nd) pgs_nil))))
    (pss_cons (ps_setLc (i := 7) (own := [("unit", 13)]) rfl sc_law_numbers_right.nd rfl rfl (sw_true rfl rfl rfl (by kernel_rfl)) (ui (ucall g_law_units (hr.mono (by decide)) rfl pass0 (pa_cons (uv 5) pa_nil))) (blkOk_by (own := [("unit", 13)]) (by kernel_rfl)) (fun _ _ _ _ _ => (ugn 13 sc_law_numbers_right.nd)) (fun _ _ _ _ _ => pts_nil) (fun _ _ _ _ _ => (pe_callB (cu_sum rfl) rfl T.b_sum (by decide +kernel) (pa_cons (pe_lc (own := [("at", 12)]) rfl sc_law_numbers_right.nd (pi_range1 rfl T.b_range (pa_cons (uv 1) pa_nil)) (blkOk_by (own := [("at", 12)]) (by kernel_rfl)) (fun _ _ _ _ _ => (ugn 12 sc_law_numbers_right.nd)) (fun _ _ _ _ _ => pts_nil) (fun _ _ _ _ _ => (pe_op uo_mulU (pe_ix (ux (hu_of hr)) (uv 6) (uv 12) (fun _ _ => rfl)) (pe_ix (ux (hu_of hr)) (ucall g_law_speed (hr.mono (by decide)) rfl pass0 (pa_cons (uv 13) (pa_cons (uv 3) pa_nil))) (uv 12) (fun _ _ => rfl))))) pa_nil))))
    (pss_cons (ps_if (PW.pt (pw_or (pt_not (ut (ucall g_law_same (hr.mono (by decide)) rfl pass0 (pa_cons (ucall g_line (hr.mono (by decide)) rfl passL (pa_cons (uv 3) (pa_cons (uv 4) pa_nil))) (pa_cons (uv 7) pa_nil))))) (pw_or1 (pt_not (ut (ucall g_law_same (hr.mono (by decide)) rfl pass0 (pa_cons (ucallk0 k_line_other_one (hr.mono (by decide)) rfl passL (pk_cons (uv 3) (pk_cons (uv 4) pk_nil))) (pa_cons (pe_lc (own := [("number", 14)]) rfl sc_law_numbers_right.nd (ui (uv 7)) (blkOk_by (own := [("number", 14)]) (by kernel_rfl)) (fun _ _ _ _ _ => (ugn 14 sc_law_numbers_right.nd)) (fun _ _ _ _ _ => pts_nil) (fun _ _ _ _ _ => (pe_op uo_sub pe_int (uv 14)))) pa_nil)))))))) (pss_one (ps_ret pe_bl)) pss_nil)
    (pss_cons (us_set 8 sc_law_numbers_right.nd (pe_callTy cu_tup rfl T.b_tuple (by decide +kernel) (pa_cons (pe_lc (own := [("at", 12)]) rfl sc_law_numbers_right.nd (pi_range1 rfl T.b_range (pa_cons (uv 5) pa_nil)) (blkOk_by (own := [("at", 12)]) (by kernel_rfl)) (fun _ _ _ _ _ => (ugn 12 sc_law_numbers_right.nd)) (fun _ _ _ _ _ => pts_nil) (fun _ _ _ _ _ => (ucall g_law_number (hr.mono (by decide)) rfl pass0 (pa_cons (uv 0) pa_nil)))) pa_nil)))
    (pss_cons (us_set 9 sc_law_numbers_right.nd (ucall g_speed (hr.mono (by decide)) rfl passL (pa_cons (uv 8) (pa_cons (uv 3) pa_nil))))
    (pss_cons (ps_if (PW.pt (pw_or (pt_not (ut (ucall g_law_same (hr.mono (by decide)) rfl pass0 (pa_cons (uv 9) (pa_cons (ucall g_law_speed (hr.mono (by decide)) rfl pass0 (pa_cons (uv 8) (pa_cons (uv 3) pa_nil))) pa_nil))))) (pw_or1 (utc (uo_ne hr.units) (ucallk0 k_speed_point_motion (hr.mono (by decide)) rfl passL (pk_cons (uv 3) (pk_cons (uv 8) pk_nil))) (uv 9) (nomark _))))) (pss_one (ps_ret pe_bl)) pss_nil)
    (pss_cons (ps_asg (pe_tup (pa_cons (ucall g_speed (hr.mono (by decide)) rfl passL (pa_cons (uv 8) (pa_cons (uv 3) pa_nil))) (pa_cons (ucall g_speed (hr.mono (by decide)) rfl passL (pa_cons (uv 8) (pa_cons (uv 4) pa_nil))) pa_nil))) (pg_tup (by rfl) (pgs_cons (ugn 10 sc_law_numbers_right.nd) (pgs_cons (ugn 11 sc_law_numbers_right.nd) pgs_nil))))
    (pss_one (ps_ret (pe_cmpR (uo_eq hr.units) (pe_callB (cu_sum rfl) rfl T.b_sum (by decide +kernel) (pa_cons (pe_lc (own := [("at", 12)]) rfl sc_law_numbers_right.nd (pi_range1 rfl T.b_range (pa_cons (uv 1) pa_nil)) (blkOk_by (own := [("at", 12)]) (by kernel_rfl)) (fun _ _ _ _ _ => (ugn 12 sc_law_numbers_right.nd)) (fun _ _ _ _ _ => pts_nil) (fun _ _ _ _ _ => (pe_op uo_mulU (pe_ix (ux (hu_of hr)) (uv 6) (uv 12) (fun _ _ => rfl)) (pe_op uo_sub (pe_ix (ux (hu_of hr)) (uv 11) (uv 12) (fun _ _ => rfl)) (pe_ix (ux (hu_of hr)) (uv 10) (uv 12) (fun _ _ => rfl)))))) pa_nil)) pe_int (nomark _))))))))))))))
theorem ok_law_numbers_right {P : Program} {w : World} {K : PySem.W.Frag} {mg : Str → Option Value} {base : Heap} (T : Top K mg) (g_law_draw : Cal P w K mg base CX0 "_law_draw" 1 ["pen", "many"] (sp_law_draw K)) (g_law_far : Cal P w K mg base CX0 "_law_far" 3 ["pen"] (sp_law_far K)) (g_law_number : Cal P w K mg base CX0 "_law_number" 4 ["pen"] (sp_law_number K)) (g_law_pick : Cal P w K mg base CX0 "_law_pick" 2 ["pen", "some"] (sp_law_pick K)) (g_law_same : Cal P w K mg base CX0 "_law_same" 1 ["value", "due"] (sp_law_same K)) (g_law_speed : Cal P w K mg base CX0 "_law_speed" 1 ["motion", "point"] (sp_law_speed K)) (g_law_units : Cal P w K mg base CX0 "_law_units" 1 ["width"] (sp_law_units K)) (g_line : Cal P w K mg base (L2.CX P w) "line" 6 ["one", "other"] (sp_line K)) (g_speed : Cal P w K mg base (L2.CX P w) "speed" 5 ["motion", "point"] (sp_speed K)) (k_line_other_one : CalK P w K mg base (L2.CX P w) "line" 6 ["one", "other"] ["other", "one"] [1, 0] (sp_line K)) (k_speed_point_motion : CalK P w K mg base (L2.CX P w) "speed" 5 ["motion", "point"] ["point", "motion"] [1, 0] (sp_speed K)) : ∃ fd, FnP K "_law_numbers_right" "_law_numbers_right" s_law_numbers_right (He.fAd K ("_law_numbers_right", none)) fd ∧ FnOk P w K mg base CX0 7 (He.fAd K ("_law_numbers_right", none)) fd ["pen", "dimension"] (sp_law_numbers_right K) :=
  let ⟨fd, F⟩ := T.d_law_numbers_right
  ⟨fd, F, fk_law_numbers_right T g_law_draw g_law_far g_law_number g_law_pick g_law_same g_law_speed g_law_units g_line g_speed k_line_other_one k_speed_point_motion F⟩
theorem cl_law_numbers_right {P : Program} {w : World} {K : PySem.W.Frag} {mg : Str → Option Value} {base : Heap} (T : Top K mg) (h : ∃ fd, FnP K "_law_numbers_right" "_law_numbers_right" s_law_numbers_right (He.fAd K ("_law_numbers_right", none)) fd ∧ FnOk P w K mg base CX0 7 (He.fAd K ("_law_numbers_right", none)) fd ["pen", "dimension"] (sp_law_numbers_right K)) : Cal P w K mg base CX0 "_law_numbers_right" 7 ["pen", "dimension"] (sp_law_numbers_right K) := by
  obtain ⟨fd, F, h⟩ := h
  exact ⟨⟨fd, h, F.bindsN fun _ _ _ _ _ _ us hl => match us, hl with | [_, _], _ => rfl⟩, T.a_law_numbers_right, F.kp⟩
theorem fk_law_refused {P : Program} {w : World} {K : PySem.W.Frag} {mg : Str → Option Value} {base : Heap} (T : Top K mg) (g_law_draw : Cal P w K mg base CX0 "_law_draw" 1 ["pen", "many"] (sp_law_draw K)) (g_law_number : Cal P w K mg base CX0 "_law_number" 4 ["pen"] (sp_law_number K)) (g_law_pick : Cal P w K mg base CX0 "_law_pick" 2 ["pen", "some"] (sp_law_pick K)) (g_is_point : Cal P w K mg base (L2.CX P w) "is_point" 5 ["dimension", "value"] (sp_is_point K)) (g_is_spot : Cal P w K mg base (L2.CX P w) "is_spot" 6 ["dimension", "kind", "value"] (sp_is_spot K)) (g_line : Cal P w K mg base (L2.CX P w) "line" 6 ["one", "other"] (sp_line K)) (g_speed : Cal P w K mg base (L2.CX P w) "speed" 5 ["motion", "point"] (sp_speed K)) (h_law_heard : CalH P w K mg base "_law_heard" "ask" 1 (fun _ => True) (TT_law_heard K)) (TB : LamX.TabB base mg (He.cT K ("_law_refused", none)).1 (He.cT K ("_law_refused", none)).2) {fd : FuncData} (F : FnP K "_law_refused" "_law_refused" s_law_refused (He.fAd K ("_law_refused", none)) fd) : FnOk P w K mg base CX0 9 (He.fAd K ("_law_refused", none)) fd ["pen", "dimension"] (sp_law_refused K) := by
  refine funD_okC (p := ("_law_refused", none)) F sc_law_refused ln_law_refused (fun cdv A outer s H vs Q E hcd hr h => ⟨t_law_refused K, PSs.nox ?_, pu_law_refused vs H Q E h⟩)
  exact (pss_cons (ps_asg (pe_tup (pa_cons (pe_op uo_div (pe_op uo_mulU (uv 1) (pe_op uo_addT (uv 1) pe_int)) pe_int) (pa_cons (pe_callTy cu_tup rfl T.b_tuple (by decide +kernel) (pa_cons (pe_lc (own := [("at", 11)]) rfl sc_law_refused.nd (pi_range1 rfl T.b_range (pa_cons (uv 1) pa_nil)) (blkOk_by (own := [("at", 11)]) (by kernel_rfl)) (fun _ _ _ _ _ => (ugn 11 sc_law_refused.nd)) (fun _ _ _ _ _ => pts_nil) (fun _ _ _ _ _ => (pe_op uo_sub (ucall g_law_draw (hr.mono (by decide)) rfl pass0 (pa_cons (uv 0) (pa_cons pe_int pa_nil))) pe_int))) pa_nil)) pa_nil))) (pg_tup (by rfl) (pgs_cons (ugn 2 sc_law_refused.nd) (pgs_cons (ugn 3 sc_law_refused.nd) pgs_nil))))
    (pss_cons (us_set 4 sc_law_refused.nd (ucall g_law_pick (hr.mono (by decide)) rfl pass0 (pa_cons (uv 0) (pa_cons (pe_lst (pa_cons pe_non (pa_cons pe_int (pa_cons (pe_callTy cu_list rfl T.b_list (by decide +kernel) (pa_cons (uv 3) pa_nil)) (pa_cons (pe_op uo_mulU (uv 3) pe_int) (pa_cons (pe_tup pa_nil) (pa_cons (pe_op uo_addT (pe_tup (pa_cons pe_bl pa_nil)) (pe_slice us (uv 3) (upo pe_int) po_none)) (pa_cons (pe_op uo_addT (pe_tup (pa_cons pe_str pa_nil)) (pe_slice us (uv 3) (upo pe_int) po_none)) (pa_cons (pe_op uo_addT (pe_slice us (uv 3) po_none (upo (pe_un uo_neg pe_int))) (pe_tup (pa_cons (pe_op uo_pow pe_int pe_int) pa_nil))) (pa_cons pe_dnewK pa_nil)))))))))) pa_nil))))
    (pss_cons (us_set 5 sc_law_refused.nd (ucall g_law_pick (hr.mono (by decide)) rfl pass0 (pa_cons (uv 0) (pa_cons (pe_lst (pa_cons (pe_op uo_addT (uv 3) (pe_tup (pa_cons pe_int pa_nil))) (pa_cons (pe_slice us (uv 3) (upo pe_int) po_none) (pa_cons (pe_callTy cu_list rfl T.b_list (by decide +kernel) (pa_cons (uv 3) pa_nil)) (pa_cons pe_non (pa_cons (pe_op uo_addT (pe_slice us (uv 3) po_none (upo (pe_un uo_neg pe_int))) (pe_tup (pa_cons (pe_op uo_sub pe_int (pe_op uo_pow pe_int pe_int)) pa_nil))) (pa_cons (pe_op uo_addT (pe_slice us (uv 3) po_none (upo (pe_un uo_neg pe_int))) (pe_tup (pa_cons pe_bl pa_nil))) pa_nil))))))) pa_nil))))
    (pss_cons (us_set 6 sc_law_refused.nd (pe_callTy cu_tup rfl T.b_tuple (by decide +kernel) (pa_cons (pe_lc (own := [("at", 11)]) rfl sc_law_refused.nd (pi_range1 rfl T.b_range (pa_cons (uv 2) pa_nil)) (blkOk_by (own := [("at", 11)]) (by kernel_rfl)) (fun _ _ _ _ _ => (ugn 11 sc_law_refused.nd)) (fun _ _ _ _ _ => pts_nil) (fun _ _ _ _ _ => (ucall g_law_number (hr.mono (by decide)) rfl pass0 (pa_cons (uv 0) pa_nil)))) pa_nil)))
    (pss_cons (us_set 7 sc_law_refused.nd (ucall g_law_pick (hr.mono (by decide)) rfl pass0 (pa_cons (uv 0) (pa_cons (pe_lst (pa_cons pe_non (pa_cons pe_int (pa_cons (pe_callTy cu_list rfl T.b_list (by decide +kernel) (pa_cons (uv 6) pa_nil)) (pa_cons (pe_op uo_addT (uv 6) (pe_tup (pa_cons pe_int pa_nil))) (pa_cons (pe_op uo_addT (pe_slice us (uv 6) po_none (upo (pe_un uo_neg pe_int))) (pe_tup (pa_cons pe_bl pa_nil))) (pa_cons (pe_op uo_mulU (pe_tup (pa_cons pe_int pa_nil)) pe_int) (pa_cons (pe_op uo_mulU (pe_tup (pa_cons pe_int pa_nil)) pe_int) (pa_cons (pe_tup pa_nil) (pa_cons (pe_op uo_addT (pe_slice us (uv 6) po_none (upo (pe_un uo_neg pe_int))) (pe_tup (pa_cons pe_str pa_nil))) pa_nil)))))))))) pa_nil))))
    (pss_cons (us_set 8 sc_law_refused.nd (pe_lst (pa_cons (ue_lam (k := 6) h_law_heard trivial rfl TB hcd (List.mem_of_getElem? (i := 0) rfl) (tabs_un T.tn (i := 0) rfl) (hr.mono (by decide)) (hr.mono (by decide)) (LamX.lamS_by (by kernel_rfl)) rfl (fun _ _ _ _ _ => rfl) (fun A outer s H E f c' hr => (ucall g_line (hr.mono (by decide)) rfl (passes_call (takes_of rfl rfl rfl rfl) (fun _ _ _ _ h => h)) (pa_cons (uv 4) (pa_cons (uv 5) pa_nil))))) (pa_cons (ue_lam (k := 6) h_law_heard trivial rfl TB hcd (List.mem_of_getElem? (i := 0) rfl) (tabs_un T.tn (i := 0) rfl) (hr.mono (by decide)) (hr.mono (by decide)) (LamX.lamS_by (by kernel_rfl)) rfl (fun _ _ _ _ _ => rfl) (fun A outer s H E f c' hr => (ucall g_line (hr.mono (by decide)) rfl (passes_call (takes_of rfl rfl rfl rfl) (fun _ _ _ _ h => h)) (pa_cons (uv 4) (pa_cons (uv 3) pa_nil))))) (pa_cons (ue_lam (k := 6) h_law_heard trivial rfl TB hcd (List.mem_of_getElem? (i := 0) rfl) (tabs_un T.tn (i := 0) rfl) (hr.mono (by decide)) (hr.mono (by decide)) (LamX.lamS_by (by kernel_rfl)) rfl (fun _ _ _ _ _ => rfl) (fun A outer s H E f c' hr => (ucall g_line (hr.mono (by decide)) rfl (passes_call (takes_of rfl rfl rfl rfl) (fun _ _ _ _ h => h)) (pa_cons (uv 3) (pa_cons (uv 5) pa_nil))))) pa_nil)))))
    (pss_cons (ps_if (utc (uo_ne hr.units) (uv 8) (pe_op uo_addT (pe_op uo_mulU (pe_lst (pa_cons (pe_tup (pa_cons pe_str (pa_cons pe_str pa_nil))) pa_nil)) pe_int) (pe_lst (pa_cons (pe_tup (pa_cons pe_str (pa_cons pe_str pa_nil))) pa_nil))) (nomark _)) (pss_one (ps_ret pe_bl)) pss_nil)
    (pss_cons (us_set 8 sc_law_refused.nd (pe_lst (pa_cons (ue_lam (k := 5) h_law_heard trivial rfl TB hcd (List.mem_of_getElem? (i := 0) rfl) (tabs_un T.tn (i := 0) rfl) (hr.mono (by decide)) (hr.mono (by decide)) (LamX.lamS_by (by kernel_rfl)) rfl (fun _ _ _ _ _ => rfl) (fun A outer s H E f c' hr => (ucall g_speed (hr.mono (by decide)) rfl (passes_call (takes_of rfl rfl rfl rfl) (fun _ _ _ _ h => h)) (pa_cons (uv 7) (pa_cons (uv 5) pa_nil))))) (pa_cons (ue_lam (k := 5) h_law_heard trivial rfl TB hcd (List.mem_of_getElem? (i := 0) rfl) (tabs_un T.tn (i := 0) rfl) (hr.mono (by decide)) (hr.mono (by decide)) (LamX.lamS_by (by kernel_rfl)) rfl (fun _ _ _ _ _ => rfl) (fun A outer s H E f c' hr => (ucall g_speed (hr.mono (by decide)) rfl (passes_call (takes_of rfl rfl rfl rfl) (fun _ _ _ _ h => h)) (pa_cons (uv 7) (pa_cons (uv 3) pa_nil))))) (pa_cons (ue_lam (k := 5) h_law_heard trivial rfl TB hcd (List.mem_of_getElem? (i := 0) rfl) (tabs_un T.tn (i := 0) rfl) (hr.mono (by decide)) (hr.mono (by decide)) (LamX.lamS_by (by kernel_rfl)) rfl (fun _ _ _ _ _ => rfl) (fun A outer s H E f c' hr => (ucall g_speed (hr.mono (by decide)) rfl (passes_call (takes_of rfl rfl rfl rfl) (fun _ _ _ _ h => h)) (pa_cons (uv 6) (pa_cons (uv 5) pa_nil))))) pa_nil)))))
    (pss_cons (ps_if (utc (uo_ne hr.units) (uv 8) (pe_op uo_addT (pe_op uo_mulU (pe_lst (pa_cons (pe_tup (pa_cons pe_str (pa_cons pe_str pa_nil))) pa_nil)) pe_int) (pe_lst (pa_cons (pe_tup (pa_cons pe_str (pa_cons pe_str pa_nil))) pa_nil))) (nomark _)) (pss_one (ps_ret pe_bl)) pss_nil)
    (pss_cons (ps_asg (pe_tup (pa_cons (ucall g_law_pick (hr.mono (by decide)) rfl pass0 (pa_cons (uv 0) (pa_cons (pe_lst (pa_cons pe_int (pa_cons pe_int (pa_cons (pe_un uo_neg pe_int) (pa_cons pe_bl (pa_cons pe_non (pa_cons pe_str (pa_cons (pe_tup (pa_cons pe_int pa_nil)) (pa_cons (pe_op uo_pow pe_int pe_int) pa_nil))))))))) pa_nil))) (pa_cons (ucall g_law_pick (hr.mono (by decide)) rfl pass0 (pa_cons (uv 0) (pa_cons (pe_lst (pa_cons pe_str (pa_cons pe_str (pa_cons pe_non (pa_cons pe_int (pa_cons pe_str (pa_cons (pe_tup (pa_cons pe_str pa_nil)) (pa_cons pe_str pa_nil)))))))) pa_nil))) pa_nil))) (pg_tup (by rfl) (pgs_cons (ugn 9 sc_law_refused.nd) (pgs_cons (ugn 10 sc_law_refused.nd) pgs_nil))))
    (pss_cons (us_set 8 sc_law_refused.nd (pe_lst (pa_cons (ue_lam (k := 5) h_law_heard trivial rfl TB hcd (List.mem_of_getElem? (i := 0) rfl) (tabs_un T.tn (i := 0) rfl) (hr.mono (by decide)) (hr.mono (by decide)) (LamX.lamS_by (by kernel_rfl)) rfl (fun _ _ _ _ _ => rfl) (fun A outer s H E f c' hr => (ucall g_is_point (hr.mono (by decide)) rfl (passes_call (takes_of rfl rfl rfl rfl) (fun _ _ _ _ h => h)) (pa_cons (uv 9) (pa_cons (uv 3) pa_nil))))) (pa_cons (ue_lam (k := 6) h_law_heard trivial rfl TB hcd (List.mem_of_getElem? (i := 0) rfl) (tabs_un T.tn (i := 0) rfl) (hr.mono (by decide)) (hr.mono (by decide)) (LamX.lamS_by (by kernel_rfl)) rfl (fun _ _ _ _ _ => rfl) (fun A outer s H E f c' hr => (ucall g_is_spot (hr.mono (by decide)) rfl (passes_call (takes_of rfl rfl rfl rfl) (fun _ _ _ _ h => h)) (pa_cons (uv 9) (pa_cons (uv 10) (pa_cons (pe_tup pa_nil) pa_nil)))))) (pa_cons (ue_lam (k := 6) h_law_heard trivial rfl TB hcd (List.mem_of_getElem? (i := 0) rfl) (tabs_un T.tn (i := 0) rfl) (hr.mono (by decide)) (hr.mono (by decide)) (LamX.lamS_by (by kernel_rfl)) rfl (fun _ _ _ _ _ => rfl) (fun A outer s H E f c' hr => (ucall g_is_spot (hr.mono (by decide)) rfl (passes_call (takes_of rfl rfl rfl rfl) (fun _ _ _ _ h => h)) (pa_cons (uv 1) (pa_cons (uv 10) (pa_cons (pe_tup pa_nil) pa_nil)))))) pa_nil)))))
    (pss_cons (ps_if (utc (uo_ne hr.units) (uv 8) (pe_lst (pa_cons (pe_tup (pa_cons pe_str (pa_cons (uv 9) pa_nil))) (pa_cons (pe_tup (pa_cons pe_str (pa_cons (uv 9) pa_nil))) (pa_cons (pe_tup (pa_cons pe_str (pa_cons (uv 10) pa_nil))) pa_nil)))) (nomark _)) (pss_one (ps_ret pe_bl)) pss_nil)
    (pss_cons (ps_if (pt_not (utc (uo_eq hr.units) (ue_lam (k := 6) h_law_heard trivial rfl TB hcd (List.mem_of_getElem? (i := 0) rfl) (tabs_un T.tn (i := 0) rfl) (hr.mono (by decide)) (hr.mono (by decide)) (LamX.lamS_by (by kernel_rfl)) rfl (fun _ _ _ _ _ => rfl) (fun A outer s H E f c' hr => (ucall g_is_spot (hr.mono (by decide)) rfl (passes_call (takes_of rfl rfl rfl rfl) (fun _ _ _ _ h => h)) (pa_cons pe_int (pa_cons pe_str (pa_cons (pe_tup pa_nil) pa_nil)))))) (pe_tup (pa_cons pe_str (pa_cons pe_str pa_nil))) (nomark _))) (pss_one (ps_ret pe_bl)) pss_nil)
    (pss_one (ps_ret (pe_cmpR uo_is (ue_lam (k := 6) h_law_heard trivial rfl TB hcd (List.mem_of_getElem? (i := 0) rfl) (tabs_un T.tn (i := 0) rfl) (hr.mono (by decide)) (hr.mono (by decide)) (LamX.lamS_by (by kernel_rfl)) rfl (fun _ _ _ _ _ => rfl) (fun A outer s H E f c' hr => (ucall g_is_spot (hr.mono (by decide)) rfl (passes_call (takes_of rfl rfl rfl rfl) (fun _ _ _ _ h => h)) (pa_cons pe_int (pa_cons pe_str (pa_cons (pe_tup pa_nil) pa_nil)))))) pe_non (nomark _)))))))))))))))))
theorem ok_law_refused {P : Program} {w : World} {K : PySem.W.Frag} {mg : Str → Option Value} {base : Heap} (T : Top K mg) (g_law_draw : Cal P w K mg base CX0 "_law_draw" 1 ["pen", "many"] (sp_law_draw K)) (g_law_number : Cal P w K mg base CX0 "_law_number" 4 ["pen"] (sp_law_number K)) (g_law_pick : Cal P w K mg base CX0 "_law_pick" 2 ["pen", "some"] (sp_law_pick K)) (g_is_point : Cal P w K mg base (L2.CX P w) "is_point" 5 ["dimension", "value"] (sp_is_point K)) (g_is_spot : Cal P w K mg base (L2.CX P w) "is_spot" 6 ["dimension", "kind", "value"] (sp_is_spot K)) (g_line : Cal P w K mg base (L2.CX P w) "line" 6 ["one", "other"] (sp_line K)) (g_speed : Cal P w K mg base (L2.CX P w) "speed" 5 ["motion", "point"] (sp_speed K)) (h_law_heard : CalH P w K mg base "_law_heard" "ask" 1 (fun _ => True) (TT_law_heard K)) (TB : LamX.TabB base mg (He.cT K ("_law_refused", none)).1 (He.cT K ("_law_refused", none)).2) : ∃ fd, FnP K "_law_refused" "_law_refused" s_law_refused (He.fAd K ("_law_refused", none)) fd ∧ FnOk P w K mg base CX0 9 (He.fAd K ("_law_refused", none)) fd ["pen", "dimension"] (sp_law_refused K) :=
  let ⟨fd, F⟩ := T.d_law_refused
  ⟨fd, F, fk_law_refused T g_law_draw g_law_number g_law_pick g_is_point g_is_spot g_line g_speed h_law_heard TB F⟩
theorem cl_law_refused {P : Program} {w : World} {K : PySem.W.Frag} {mg : Str → Option Value} {base : Heap} (T : Top K mg) (h : ∃ fd, FnP K "_law_refused" "_law_refused" s_law_refused (He.fAd K ("_law_refused", none)) fd ∧ FnOk P w K mg base CX0 9 (He.fAd K ("_law_refused", none)) fd ["pen", "dimension"] (sp_law_refused K)) : Cal P w K mg base CX0 "_law_refused" 9 ["pen", "dimension"] (sp_law_refused K) := by
  obtain ⟨fd, F, h⟩ := h
  exact ⟨⟨fd, h, F.bindsN fun _ _ _ _ _ _ us hl => match us, hl with | [_, _], _ => rfl⟩, T.a_law_refused, F.kp⟩
theorem fk_law {P : Program} {w : World} {K : PySem.W.Frag} {mg : Str → Option Value} {base : Heap} (T : Top K mg) (g_law_looks_right : Cal P w K mg base CX0 "_law_looks_right" 7 ["pen", "dimension"] (sp_law_looks_right K)) (g_law_numbers_right : Cal P w K mg base CX0 "_law_numbers_right" 7 ["pen", "dimension"] (sp_law_numbers_right K)) (g_law_pen : Cal P w K mg base CX0 "_law_pen" 1 ["script"] (sp_law_pen K)) (g_law_refused : Cal P w K mg base CX0 "_law_refused" 9 ["pen", "dimension"] (sp_law_refused K)) (g_coordinate : Cal P w K mg base CX0 "coordinate" 3 ["value"] (sp_coordinate K)) {fd : FuncData} (F : FnP K "law" "law" s_law (He.fAd K ("law", none)) fd) : FnOk P w K mg base CX0 10 (He.fAd K ("law", none)) fd ["script"] (sp_law K) := by
  refine F.ok sc_law ln_law (fun cdv A outer s H vs Q E hr h => ⟨t_law K, PSs.nox ?_, pu_law T.ef law_ok vs H Q E h⟩)
  exact (pss_cons (us_set 1 sc_law.nd (ucall g_law_pen (hr.mono (by decide)) rfl pass0 (pa_cons (uv 0) pa_nil)))
    (pss_cons (ps_for PassesOwn.never rfl (pi_range1 rfl T.b_range (pa_cons pe_int pa_nil)) (ugn 2 sc_law.nd) (pss_one (ps_for PassesOwn.never rfl (ui (pe_tup (pa_cons pe_int (pa_cons pe_int (pa_cons pe_int pa_nil))))) (ugn 3 sc_law.nd) (pss_one (ps_if (PW.pt (pw_or (pt_not (ut (ucall g_law_looks_right (hr.mono (by decide)) rfl pass0 (pa_cons (uv 1) (pa_cons (uv 3) pa_nil))))) (pw_or (pt_not (ut (ucall g_law_numbers_right (hr.mono (by decide)) rfl pass0 (pa_cons (uv 1) (pa_cons (uv 3) pa_nil))))) (pw_or1 (pt_not (ut (ucall g_law_refused (hr.mono (by decide)) rfl pass0 (pa_cons (uv 1) (pa_cons (uv 3) pa_nil))))))))) (pss_one (ps_ret pe_bl)) pss_nil)))))
    (pss_cons (us_set 4 sc_law.nd (pe_lst (pa_cons (ucall g_coordinate (hr.mono (by decide)) rfl pass0 (pa_cons pe_int pa_nil)) (pa_cons (ucall g_coordinate (hr.mono (by decide)) rfl pass0 (pa_cons (pe_un uo_neg pe_int) pa_nil)) (pa_cons (ucall g_coordinate (hr.mono (by decide)) rfl pass0 (pa_cons (pe_op uo_pow pe_int pe_int) pa_nil)) (pa_cons (ucall g_coordinate (hr.mono (by decide)) rfl pass0 (pa_cons (pe_op uo_sub pe_int (pe_op uo_pow pe_int pe_int)) pa_nil)) pa_nil))))))
    (pss_one (ps_ret (pe_cmpR (uo_eq hr.units) (uv 4) (pe_lst (pa_cons pe_bl (pa_cons pe_bl (pa_cons pe_bl (pa_cons pe_bl pa_nil))))) (nomark _)))))))
theorem ok_law {P : Program} {w : World} {K : PySem.W.Frag} {mg : Str → Option Value} {base : Heap} (T : Top K mg) (g_law_looks_right : Cal P w K mg base CX0 "_law_looks_right" 7 ["pen", "dimension"] (sp_law_looks_right K)) (g_law_numbers_right : Cal P w K mg base CX0 "_law_numbers_right" 7 ["pen", "dimension"] (sp_law_numbers_right K)) (g_law_pen : Cal P w K mg base CX0 "_law_pen" 1 ["script"] (sp_law_pen K)) (g_law_refused : Cal P w K mg base CX0 "_law_refused" 9 ["pen", "dimension"] (sp_law_refused K)) (g_coordinate : Cal P w K mg base CX0 "coordinate" 3 ["value"] (sp_coordinate K)) : ∃ fd, FnP K "law" "law" s_law (He.fAd K ("law", none)) fd ∧ FnOk P w K mg base CX0 10 (He.fAd K ("law", none)) fd ["script"] (sp_law K) :=
  let ⟨fd, F⟩ := T.d_law
  ⟨fd, F, fk_law T g_law_looks_right g_law_numbers_right g_law_pen g_law_refused g_coordinate F⟩
theorem cl_law {P : Program} {w : World} {K : PySem.W.Frag} {mg : Str → Option Value} {base : Heap} (T : Top K mg) (h : ∃ fd, FnP K "law" "law" s_law (He.fAd K ("law", none)) fd ∧ FnOk P w K mg base CX0 10 (He.fAd K ("law", none)) fd ["script"] (sp_law K)) : Cal P w K mg base CX0 "law" 10 ["script"] (sp_law K) := by
  obtain ⟨fd, F, h⟩ := h
  exact ⟨⟨fd, h, F.bindsN fun _ _ _ _ _ _ us hl => match us, hl with | [_], _ => rfl⟩, T.a_law, F.kp⟩
theorem mk_is_point_value_dimension {P : Program} {w : World} {K : PySem.W.Frag} {mg : Str → Option Value} {base : Heap} (T : Top K mg) (h : ∃ fd, FnP K "is_point" "is_point" s_is_point (He.fAd K ("is_point", none)) fd ∧ FnOk P w K mg base (L2.CX P w) 5 (He.fAd K ("is_point", none)) fd ["dimension", "value"] (sp_is_point K)) : CalK P w K mg base (L2.CX P w) "is_point" 5 ["dimension", "value"] ["value", "dimension"] [1, 0] (sp_is_point K) := by
  obtain ⟨fd, F, h⟩ := h
  exact ⟨⟨fd, h, bindsKA F (fun _ _ _ _ _ _ ws hl => match ws, hl with | [_, _], _ => rfl)⟩, T.a_is_point, F.kp⟩
theorem mk_is_spot_value_kind_dimension {P : Program} {w : World} {K : PySem.W.Frag} {mg : Str → Option Value} {base : Heap} (T : Top K mg) (h : ∃ fd, FnP K "is_spot" "is_spot" s_is_spot (He.fAd K ("is_spot", none)) fd ∧ FnOk P w K mg base (L2.CX P w) 6 (He.fAd K ("is_spot", none)) fd ["dimension", "kind", "value"] (sp_is_spot K)) : CalK P w K mg base (L2.CX P w) "is_spot" 6 ["dimension", "kind", "value"] ["value", "kind", "dimension"] [2, 1, 0] (sp_is_spot K) := by
  obtain ⟨fd, F, h⟩ := h
  exact ⟨⟨fd, h, bindsKA F (fun _ _ _ _ _ _ ws hl => match ws, hl with | [_, _, _], _ => rfl)⟩, T.a_is_spot, F.kp⟩
theorem mk_line_other_one {P : Program} {w : World} {K : PySem.W.Frag} {mg : Str → Option Value} {base : Heap} (T : Top K mg) (h : ∃ fd, FnP K "line" "line" s_line (He.fAd K ("line", none)) fd ∧ FnOk P w K mg base (L2.CX P w) 6 (He.fAd K ("line", none)) fd ["one", "other"] (sp_line K)) : CalK P w K mg base (L2.CX P w) "line" 6 ["one", "other"] ["other", "one"] [1, 0] (sp_line K) := by
  obtain ⟨fd, F, h⟩ := h
  exact ⟨⟨fd, h, bindsKA F (fun _ _ _ _ _ _ ws hl => match ws, hl with | [_, _], _ => rfl)⟩, T.a_line, F.kp⟩
theorem mk_speed_point_motion {P : Program} {w : World} {K : PySem.W.Frag} {mg : Str → Option Value} {base : Heap} (T : Top K mg) (h : ∃ fd, FnP K "speed" "speed" s_speed (He.fAd K ("speed", none)) fd ∧ FnOk P w K mg base (L2.CX P w) 5 (He.fAd K ("speed", none)) fd ["motion", "point"] (sp_speed K)) : CalK P w K mg base (L2.CX P w) "speed" 5 ["motion", "point"] ["point", "motion"] [1, 0] (sp_speed K) := by
  obtain ⟨fd, F, h⟩ := h
  exact ⟨⟨fd, h, bindsKA F (fun _ _ _ _ _ _ ws hl => match ws, hl with | [_, _], _ => rfl)⟩, T.a_speed, F.kp⟩

/-- the law's promise, all defs together -/
theorem law_facts {P : Program} {w : World} {K : PySem.W.Frag} {mg : Str → Option Value}  {h : Heap} {f : Addr} (X : K.In h) (G : h.Ns mainGlobals mg) (hfa : mg ("law" : Str) = some (.ref f)) (c : He.SaysD facts fns K) (ex : exB K = true) :
    ∃ fd : FuncData, (∀ (s : Shared) (v : Value), BindsTo s fd ⟨[v], []⟩ [("script", v)]) ∧ ∀ base : Heap, K.In base → base.Ns mainGlobals mg → (∀ p ∈ tf, LamX.TabB base mg (He.cT K p).1 (He.cT K p).2) → FnOk P w K mg base CX0 10 f fd ["script"] (sp_law K) := by
  have T := top_mk X G c ex
  obtain ⟨fd, F⟩ := T.d_law
  have e := hfa.symm.trans T.a_law
  cases e
  have b := FunD.bindsA (ps := ["script"]) F fun _ _ _ _ _ _ us hl => match us, hl with | [_], _ => rfl
  refine ⟨fd, fun s v => b s [v] rfl, fun base _ _ tb => ?_⟩
  have TB_law_refused := tb ("_law_refused", none) (List.mem_of_getElem? (i := 0) rfl)
  have o_is_integer := ok_is_integer (P := P) (w := w) (base := base) T 
  have g_is_integer := cl_is_integer T o_is_integer
  have e_BadDimension := e0_BadDimension (P := P) (w := w) (base := base) T
  have e_BadName := e0_BadName (P := P) (w := w) (base := base) T
  have e_BadNumber := e0_BadNumber (P := P) (w := w) (base := base) T
  have o_kinds_in := ok_kinds_in (P := P) (w := w) (base := base) T 
  have g_kinds_in := cl_kinds_in T o_kinds_in
  have o_points_in := ok_points_in (P := P) (w := w) (base := base) T 
  have g_points_in := cl_points_in T o_points_in
  have o_speed_rows := ok_speed_rows (P := P) (w := w) (base := base) T 
  have g_speed_rows := cl_speed_rows T o_speed_rows
  have o_times := ok_times (P := P) (w := w) (base := base) T 
  have g_times := cl_times T o_times
  have o_law_pen := ok_law_pen (P := P) (w := w) (base := base) T 
  have g_law_pen := cl_law_pen T o_law_pen
  have o_law_draw := ok_law_draw (P := P) (w := w) (base := base) T 
  have g_law_draw := cl_law_draw T o_law_draw
  have o_law_speed := ok_law_speed (P := P) (w := w) (base := base) T 
  have g_law_speed := cl_law_speed T o_law_speed
  have o_law_units := ok_law_units (P := P) (w := w) (base := base) T 
  have g_law_units := cl_law_units T o_law_units
  have h_law_heard := c0_law_heard (P := P) (w := w) (base := base) T 
  have o_law_says := ok_law_says (P := P) (w := w) (base := base) T 
  have g_law_says := cl_law_says T o_law_says
  have o_law_is_coordinate := ok_law_is_coordinate (P := P) (w := w) (base := base) T 
  have g_law_is_coordinate := cl_law_is_coordinate T o_law_is_coordinate
  have o_law_same := ok_law_same (P := P) (w := w) (base := base) T 
  have g_law_same := cl_law_same T o_law_same
  have o_is_within := ok_is_within (P := P) (w := w) (base := base) T g_is_integer
  have g_is_within := cl_is_within T o_is_within
  have o_line_between := ok_line_between (P := P) (w := w) (base := base) T g_speed_rows
  have g_line_between := cl_line_between T o_line_between
  have o_is_small_motion := ok_is_small_motion (P := P) (w := w) (base := base) T g_is_integer
  have g_is_small_motion := cl_is_small_motion T o_is_small_motion
  have o_law_pick := ok_law_pick (P := P) (w := w) (base := base) T g_law_draw
  have g_law_pick := cl_law_pick T o_law_pick
  have o_law_is_point := ok_law_is_point (P := P) (w := w) (base := base) T g_law_is_coordinate
  have g_law_is_point := cl_law_is_point T o_law_is_point
  have o_coordinate := ok_coordinate (P := P) (w := w) (base := base) T g_is_within
  have g_coordinate := cl_coordinate T o_coordinate
  have o_need_dimension := ok_need_dimension (P := P) (w := w) (base := base) T g_is_within e_BadDimension
  have g_need_dimension := cl_need_dimension T o_need_dimension
  have o_law_far := ok_law_far (P := P) (w := w) (base := base) T g_law_draw g_law_pick
  have g_law_far := cl_law_far T o_law_far
  have o_law_is_spot := ok_law_is_spot (P := P) (w := w) (base := base) T g_law_is_point
  have g_law_is_spot := cl_law_is_spot T o_law_is_spot
  have o_has_point_form := ok_has_point_form (P := P) (w := w) (base := base) T g_coordinate
  have g_has_point_form := cl_has_point_form T o_has_point_form
  have o_law_number := ok_law_number (P := P) (w := w) (base := base) T g_law_draw g_law_far g_law_pick
  have g_law_number := cl_law_number T o_law_number
  have o_has_spot_form := ok_has_spot_form (P := P) (w := w) (base := base) T g_has_point_form g_points_in
  have g_has_spot_form := cl_has_spot_form T o_has_spot_form
  have o_has_any_point_form := ok_has_any_point_form (P := P) (w := w) (base := base) T g_has_point_form
  have g_has_any_point_form := cl_has_any_point_form T o_has_any_point_form
  have o_is_point := ok_is_point (P := P) (w := w) (base := base) T g_has_point_form g_need_dimension
  have g_is_point := cl_is_point T o_is_point
  have k_is_point_value_dimension := mk_is_point_value_dimension T o_is_point
  have o_speed := ok_speed (P := P) (w := w) (base := base) T g_has_point_form g_is_small_motion g_speed_rows g_times e_BadNumber
  have g_speed := cl_speed T o_speed
  have k_speed_point_motion := mk_speed_point_motion T o_speed
  have o_law_odd := ok_law_odd (P := P) (w := w) (base := base) T g_law_draw g_law_number g_law_pick
  have g_law_odd := cl_law_odd T o_law_odd
  have o_is_spot := ok_is_spot (P := P) (w := w) (base := base) T g_has_spot_form g_kinds_in g_need_dimension e_BadName
  have g_is_spot := cl_is_spot T o_is_spot
  have k_is_spot_value_kind_dimension := mk_is_spot_value_kind_dimension T o_is_spot
  have o_line := ok_line (P := P) (w := w) (base := base) T g_has_any_point_form g_has_point_form g_line_between e_BadNumber
  have g_line := cl_line T o_line
  have k_line_other_one := mk_line_other_one T o_line
  have o_law_looks_right := ok_law_looks_right (P := P) (w := w) (base := base) T g_law_draw g_law_is_coordinate g_law_is_point g_law_is_spot g_law_number g_law_odd g_law_pick g_law_says g_coordinate g_is_point g_is_spot k_is_point_value_dimension k_is_spot_value_kind_dimension
  have g_law_looks_right := cl_law_looks_right T o_law_looks_right
  have o_law_numbers_right := ok_law_numbers_right (P := P) (w := w) (base := base) T g_law_draw g_law_far g_law_number g_law_pick g_law_same g_law_speed g_law_units g_line g_speed k_line_other_one k_speed_point_motion
  have g_law_numbers_right := cl_law_numbers_right T o_law_numbers_right
  have o_law_refused := ok_law_refused (P := P) (w := w) (base := base) T g_law_draw g_law_number g_law_pick g_is_point g_is_spot g_line g_speed h_law_heard TB_law_refused
  have g_law_refused := cl_law_refused T o_law_refused
  exact fk_law T g_law_looks_right g_law_numbers_right g_law_pen g_law_refused g_coordinate F
abbrev RowL : PySem.W.OpenRow := PySem.W.OpenLaw.row PySem.Challenge.rw_givesway_k24_points_lines_and_speeds
abbrev hk : PySem.W.Hook := He.hookX 5 facts fns [] tf exB
def ob (s : PySem.W.SharedT) : He.AlX := He.obsX 5 facts fns [] tf exB (HandSHeadRun.getT s)
theorem ob_eq (s : PySem.W.SharedT) : ob s = hk.obs s.abs := He.obsX_eq (HandSHeadRun.getT_eq s)
def names : List Str := (["__name__", "is_integer", "is_within", "GiveError", "BadDimension", "BadName", "NoTie", "BadNumber", "TooMany", "MOST_DIMENSION", "KINDS", "kinds_in", "MOST_COORDINATE", "WIDTHS", "has_point_form", "points_in", "has_spot_form", "speed_rows", "times", "line_between", "has_any_point_form", "coordinate", "need_dimension", "is_point", "is_spot", "line", "is_small_motion", "speed", "_law_pen", "_law_draw"] : List Str) ++ (["_law_pick", "_law_speed", "_law_units", "_law_heard", "_law_says", "_law_far", "_law_number", "_law_is_coordinate", "_law_is_point", "_law_is_spot", "_law_same", "_law_odd", "_law_looks_right", "_law_numbers_right", "_law_refused"] : List Str)
theorem run (w : World) : HandSHeadRun.RunEq RowL (PySem.W.view RowL.prog [49]) hk ob 30000 names w :=
  PySem.W.byRow2 "special-get-raises" (P := fun w => HandSHeadRun.RunEq RowL (PySem.W.view RowL.prog [49]) hk ob 30000 names w) (fun w => by intro os; kernel_rfl) (fun w => by intro os; kernel_rfl) w
end GW
open PySem PySem.W PySem.Calls PyProof.Rows
set_option maxRecDepth 100000 in
set_option maxHeartbeats 0 in
theorem PySem.Challenge.cw_givesway_k24_points_lines_and_speeds_holds : PySem.Challenge.rw_givesway_k24_points_lines_and_speeds.Holds := by
  w_on; o_law
  refine HandSHeadRun.head_any (r := OpenLaw.row PySem.Challenge.rw_givesway_k24_points_lines_and_speeds) (q := view (OpenLaw.row PySem.Challenge.rw_givesway_k24_points_lines_and_speeds).prog [49]) (H := GW.hk) (ob := GW.ob) (M := 30000) (loose := GW.names) (d := HandSHeadRun.topDef (OpenLaw.row PySem.Challenge.rw_givesway_k24_points_lines_and_speeds).prog 49) (kwd := []) GW.ob_eq
    (by kernel_rfl) (fun s => by kernel_rfl) GW.run (by kernel_rfl) (by kernel_rfl) (by kernel_rfl) (by rfl) (by first | assumption | decide +kernel) (by decide +kernel) ⟨rfl, rfl, rfl, rfl, rfl, by decide +kernel⟩ ?hw ?hc
  case hw => w_witness2
  case hc =>
    refine LamX.walk_ofTsE (l := PySem.Challenge.rw_givesway_k24_points_lines_and_speeds) (n := 63) (k := 10) (x := "script") (CX := fun _ => L2.CX0) rfl (by decide) (by kernel_rfl) ⟨rfl, by decide, by decide⟩ ?F (fun _ _ _ _ _ z => z)
    intro w mg fa h Y G hmg0
    obtain ⟨K, KX, c⟩ := Y
    have hmg : mg ("law" : PySem.Str) = some (.ref fa) := by
      have e : (HandSHeadRun.topDef (OpenLaw.row PySem.Challenge.rw_givesway_k24_points_lines_and_speeds).prog 49).name = ("law" : PySem.Str) := by kernel_rfl
      rw [← e]
      exact hmg0
    obtain ⟨fd, hb, hF⟩ := GW.law_facts (P := (PySem.Challenge.rw_givesway_k24_points_lines_and_speeds).prog) (w := w) KX G hmg c.t.d c.more
    refine ⟨K, KX, fd, GW.tf.map (He.cT K), GW.sp_law K, fun p hp => ?_, fun p hp => ?_, fun p hp => ?_, hb, fun H a ns hl hbits hT hS => GW.law_in hl hbits (fun p hp => hT _ (List.mem_map_of_mem hp)) hS, fun base h1 h2 h3 => hF base h1 h2 fun p hp => h3 _ (List.mem_map_of_mem hp)⟩
    · obtain ⟨r, hr, rfl⟩ := List.mem_map.mp hp
      exact c.empty r hr
    · obtain ⟨r, hr, rfl⟩ := List.mem_map.mp hp
      exact c.out r hr
    · obtain ⟨r, hr, rfl⟩ := List.mem_map.mp hp
      exact codeHd_of_K KX (c.hd r hr)
