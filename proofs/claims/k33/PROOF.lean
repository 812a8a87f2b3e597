import PyProof.Rows.All
import Wide.All
import OpenK.AllK
import Wide.FinOn
import HandS.Base
import HandS.Call
import HandS.List
import HandS.Comp
import HandS.Ends
import HandS.Dict
import HandS.Iter
import HandS.Text
import HandS.Words
import HandS.WordsList
import HandS.Defaults
import HandS.IsInst
import HandS.TupAny
import HandS.TupMul
import HandS.Deep
import HandS.HeadHook1
import HandS.HeadHook2
import HandS.Walk
import HandS.Zip
import HandS.Style
import HandS.Exc
import HandS.ExcInit
import HandS.ExcIs
import HandS.ExcField
import HandS.ExcOwn
import HandS.WordsExc
import KE.KLam
import HandS.Codes
import HandS.TryOnly
import HandS.Lambda
import HandS.HeadHook4
import HandS.HeadWalk
import KE.KStateDown
import HandS.Head0
import HandS.Head1
import HandS.Head2
import HandS.HeadEnd
import PySem.Challenge.RW_givesway_k33_simplex_edges_and_opposites
set_option Elab.async false
set_option linter.all false
set_option maxRecDepth 100000
set_option maxHeartbeats 4000000
namespace GW
open PySem PyProof.Rows L2

/-! ### readings that compute -/
def mVar (i : Nat) : TE := fun σ H Q => match σ[i]? with
  | some (some v) => Q v H
  | _ => False
section
variable {X : Cx} {a b c : Expr} {ta tb tc : TE} {pos : Pos}
theorem imE {e : Expr} {t t' : TE} (h : PE X e t) (i : ∀ σ H Q, t' σ H Q → t σ H Q) : PE X e t' :=
  ⟨fun pins s σ H Q I hw => h.run pins s σ H Q I (i σ H Q hw)⟩
theorem imO {f : Value → Value → Sem Value} {r r' : R2} (h : OpR X f r) (i : ∀ x y H Q, r' x y H Q → r x y H Q) : OpR X f r' :=
  fun pins s σ H x y v u Q I rx ry q => h pins s σ H x y v u Q I rx ry (i x y H Q q)
theorem imC {f : Value} {r r' : List V → Hp → VK → Prop} (h : CallR X f r) (i : ∀ xs H Q, r' xs H Q → r xs H Q) : CallR X f r' :=
  fun pins s σ H xs us Q I rs q => h pins s σ H xs us Q I rs (i xs H Q q)
theorem uv (i : Nat) {x : Str} (hN : X.N[i]? = some x := by rfl)
    (hv : Vis X.env.scope x := by first | exact Or.inl rfl | exact Or.inr (Or.inl rfl) | exact Or.inr (Or.inr rfl))
    (hd : (x == ("__debug__" : Str)) = false := by decide) (hcd : (x == ("__classdict__" : Str)) = false := by decide) :
    PE X (.Name x pos) (mVar i) := by
  refine imE (pv i hN hv hd hcd) fun σ H Q h => ?_
  unfold mVar at h
  cases e : σ[i]? with
  | none => rw [e] at h; exact h.elim
  | some o =>
    rw [e] at h
    cases o with
    | none => exact h.elim
    | some v => exact ⟨v, e, h⟩
/-! ### truth values -/
/-- what is wanted of a truth -/
def bQ (Q : Bool → Hp → Prop) : VK := fun x H => match x with
  | .bl k => Q k H
  | _ => False
def mTest (t : TE) : TT := fun σ H Q => t σ H (bQ Q)
theorem bQ_bl {Q : Bool → Hp → Prop} {x : V} {H : Hp} (h : bQ Q x H) : ∃ k, x = .bl k ∧ Q k H := by
  cases x <;> first | exact ⟨_, rfl, h⟩ | exact h.elim
/-- a value that is a truth, as a test -/
theorem ut {e : Expr} {t : TE} (h : PE X e t) (he : ∀ whole, isTrue e X.env whole = (do let v ← whole; standAt e.pos; holding [v] (truthy v)) := by intro _; rfl) : PT X e (mTest t) := by
  refine ⟨fun pins s σ H Q I hw => isTrue_plain (thn (h.run pins s σ H _ I hw) fun v s1 q => ?_) (he _)⟩
  obtain ⟨x, H1, I1, r1, q1⟩ := q
  obtain ⟨k, rfl, q2⟩ := bQ_bl q1
  cases r1
  exact wpAny_truthy_bool ⟨H1, I1, q2⟩
/-- a comparison as a test -/
theorem utc {op : CmpOp} {r : R2} (ho : OpR X (compareOp op) r) (ha : PE X a ta) (hb : PE X b tb) (hm : behindInMarks op b = false) :
    PT X (.Compare a [op] [b] pos) (mTest (tOp r ta tb)) := by
  refine ⟨fun pins s σ H Q I h => ?_⟩
  refine wpAny_isTrue_Compare1 (thn (ha.run pins s σ H _ I h) fun v s1 z => ?_) hm
  obtain ⟨x, H1, I1, r1, q1⟩ := z
  refine thn (hb.run pins s1 σ H1 _ I1 q1) fun u s2 z2 => ?_
  obtain ⟨y, H2, I2, r2, q2⟩ := z2
  refine thn (ho pins s2 σ H2 x y v u _ I2 r1 r2 q2) fun c s3 z3 => ?_
  obtain ⟨z, H3, I3, r3, q3⟩ := z3
  obtain ⟨k, rfl, q4⟩ := bQ_bl q3
  cases r3
  exact wpAny_truthy_bool ⟨H3, I3, q4⟩
def mAnd (ta tb : TE) : TE := fun σ H Q => ta σ H fun x H1 => match x with
  | .bl c => if c = true then tb σ H1 Q else Q (.bl false) H1
  | _ => False
def mOr (ta tb : TE) : TE := fun σ H Q => ta σ H fun x H1 => match x with
  | .bl c => if c = true then Q (.bl true) H1 else tb σ H1 Q
  | _ => False
def mNot (ta : TE) : TE := fun σ H Q => ta σ H fun x H1 => match x with
  | .bl c => Q (.bl (!c)) H1
  | _ => False
variable {rest : List Expr}
theorem ue_and (ha : PE X a ta) (hb : PE X (.BoolOp .And (b :: rest) pos) tb) : PE X (.BoolOp .And (a :: b :: rest) pos) (mAnd ta tb) := by
  refine ⟨fun pins s σ H Q I h => BoolOp_and (thn (ha.run pins s σ H _ I h) fun v s1 z => ?_)⟩
  obtain ⟨x, H1, I1, r1, q1⟩ := z
  cases x with
  | bl c =>
    cases r1
    refine wpAny_truthy_bool ?_
    cases c with
    | true => exact hb.run pins s1 σ H1 Q I1 q1
    | false => exact ⟨.bl false, H1, I1, rfl, q1⟩
  | _ => exact False.elim q1
theorem ue_or (ha : PE X a ta) (hb : PE X (.BoolOp .Or (b :: rest) pos) tb) : PE X (.BoolOp .Or (a :: b :: rest) pos) (mOr ta tb) := by
  refine ⟨fun pins s σ H Q I h => BoolOp_or (thn (ha.run pins s σ H _ I h) fun v s1 z => ?_)⟩
  obtain ⟨x, H1, I1, r1, q1⟩ := z
  cases x with
  | bl c =>
    cases r1
    refine wpAny_truthy_bool ?_
    cases c with
    | false => exact hb.run pins s1 σ H1 Q I1 q1
    | true => exact ⟨.bl true, H1, I1, rfl, q1⟩
  | _ => exact False.elim q1
theorem ue_not (ha : PE X a ta) : PE X (.UnaryOp .Not a pos) (mNot ta) := by
  refine ⟨fun pins s σ H Q I h => UnaryOp_ (thn (ha.run pins s σ H _ I h) fun v s1 z => ?_)⟩
  obtain ⟨x, H1, I1, r1, q1⟩ := z
  cases x with
  | bl c =>
    cases r1
    exact not_of (wpAny_truthy_bool ⟨.bl (!c), H1, I1, rfl, q1⟩)
  | _ => exact False.elim q1
def mChain (r r' : R2) (ta tb tc : TE) : TE := fun σ H Q => ta σ H fun x H1 => tb σ H1 fun y H2 => r x y H2 fun z H3 => match z with
  | .bl k => if k = true then tc σ H3 fun w' H4 => r' y w' H4 Q else Q (.bl false) H3
  | _ => False
theorem ue_chain {op op' : CmpOp} {r r' : R2} (ho : OpR X (compareOp op) r) (ho' : OpR X (compareOp op') r') (ha : PE X a ta) (hb : PE X b tb) (hc : PE X c tc)
    (hm : lastMarks [op, op'] [b, c] = false := by with_unfolding_all rfl) : PE X (.Compare a [op, op'] [b, c] pos) (mChain r r' ta tb tc) := by
  refine ⟨fun pins s σ H Q I h => ?_⟩
  refine Compare_chain (thn (ha.run pins s σ H _ I h) fun v s1 z => ?_) hm
  obtain ⟨x, H1, I1, r1, q1⟩ := z
  refine chain_link (thn (hb.run pins s1 σ H1 _ I1 q1) fun u s2 z2 => ?_)
  obtain ⟨y, H2, I2, r2, q2⟩ := z2
  refine thn (ho pins s2 σ H2 x y v u _ I2 r1 r2 q2) fun d s3 z3 => ?_
  obtain ⟨z, H3, I3, r3, q3⟩ := z3
  cases z with
  | bl k =>
    cases r3
    refine wpAny_truthy_bool ?_
    cases k with
    | false => exact ite_ff ⟨.bl false, H3, I3, rfl, q3⟩
    | true =>
      refine ite_tt (chain_last (thn (hc.run pins s3 σ H3 _ I3 q3) fun w' s4 z4 => ?_))
      obtain ⟨z', H4, I4, r4, q4⟩ := z4
      exact ho' pins s4 σ H4 y z' u w' Q I4 r2 r4 q4
  | _ => exact False.elim q3

/-! ### operators by values -/
def oAdd (K : PySem.W.Frag) : R2 := fun x y H Q => match x, y with
  | .int i, .int j => Q (.int (i + j)) H
  | .str i, .str j => i.length + j.length ≤ sizeLine ∧ Q (.str (i ++ j)) H
  | .ref i, .ref j => rCat (.ref i) (.ref j) H Q
  | _, _ => False
theorem uo_add : OpR X (binaryOp .Add) (oAdd X.K) := by
  intro pins s σ H x y v u Q I rx ry h
  cases x <;> cases y <;> first
    | exact False.elim h
    | exact op_add pins s σ H _ _ v u Q I rx ry ⟨_, _, rfl, rfl, h⟩
    | exact op_add_str pins s σ H _ _ v u Q I rx ry ⟨_, _, rfl, rfl, h⟩
    | exact op_cat pins s σ H _ _ v u Q I rx ry h
def oSub : R2 := fun x y H Q => match x, y with
  | .int i, .int j => Q (.int (i - j)) H
  | _, _ => False
theorem uo_sub : OpR X (binaryOp .Sub) oSub := by
  intro pins s σ H x y v u Q I rx ry h
  cases x <;> cases y <;> first
    | exact False.elim h
    | exact op_sub pins s σ H _ _ v u Q I rx ry ⟨_, _, rfl, rfl, h⟩
def oMul (K : PySem.W.Frag) : R2 := fun x y H Q => match x, y with
  | .int i, .int j => CMul i j ∧ Q (.int (i * j)) H
  | .str z, .int j => MulOk z j ∧ Q (.str (Txt.mul z j)) H
  | .ref i, .int j => rRep (.ref i) (.int j) H Q ∨ rRepT K (.ref i) (.int j) H Q
  | _, _ => False
theorem uo_mul : OpR X (binaryOp .Mult) (oMul X.K) := by
  intro pins s σ H x y v u Q I rx ry h
  cases x <;> cases y <;> first
    | exact False.elim h
    | exact op_mul pins s σ H _ _ v u Q I rx ry ⟨_, _, rfl, rfl, h.1, h.2⟩
    | exact h.elim (op_rep pins s σ H _ _ v u Q I rx ry) (op_repT pins s σ H _ _ v u Q I rx ry)
    | (obtain ⟨t, rfl⟩ := rx; obtain ⟨t', rfl⟩ := ry; exact PySem.SB.mul h.1 fun t2 k => ⟨.str _, H, I.tok _, ⟨_, rfl⟩, h.2⟩)
def oMod : R2 := fun x y H Q => match x, y with
  | .int i, .int j => 0 < j ∧ Q (.int (i % j)) H
  | _, _ => False
theorem uo_mod : OpR X (binaryOp .Mod) oMod := by
  intro pins s σ H x y v u Q I rx ry h
  cases x <;> cases y <;> first
    | exact False.elim h
    | exact op_mod pins s σ H _ _ v u Q I rx ry ⟨_, _, rfl, rfl, h.1, h.2⟩
def oDiv : R2 := fun x y H Q => match x, y with
  | .int i, .int j => CDiv i j ∧ Q (.int (i / j)) H
  | _, _ => False
theorem uo_div : OpR X (binaryOp .FloorDiv) oDiv := by
  intro pins s σ H x y v u Q I rx ry h
  cases x <;> cases y <;> first
    | exact False.elim h
    | exact op_fdiv pins s σ H _ _ v u Q I rx ry ⟨_, _, rfl, rfl, h.1, h.2⟩
def oPow : R2 := fun x y H Q => match x, y with
  | .int i, .int j => CPow i j ∧ Q (.int (i ^ j.toNat)) H
  | _, _ => False
theorem uo_pow : OpR X (binaryOp .Pow) oPow := by
  intro pins s σ H x y v u Q I rx ry h
  cases x <;> cases y <;> first
    | exact False.elim h
    | exact op_pow pins s σ H _ _ v u Q I rx ry ⟨_, _, rfl, rfl, h.1, h.2⟩
/-- an order of ints, of texts -/
def oOrd (p : Int → Int → Bool) (t : List Nat → List Nat → Bool) : R2 := fun x y H Q => match x, y with
  | .int i, .int j => Q (.bl (p i j)) H
  | .str i, .str j => Q (.bl (t i.cps.toList j.cps.toList)) H
  | _, _ => False
abbrev oLt : R2 := oOrd (fun i j => decide (i < j)) fun i j => decide (i < j)
abbrev oLe : R2 := oOrd (fun i j => decide (i ≤ j)) fun i j => !decide (j < i)
abbrev oGt : R2 := oOrd (fun i j => decide (j < i)) fun i j => decide (j < i)
abbrev oGe : R2 := oOrd (fun i j => decide (j ≤ i)) fun i j => !decide (i < j)
theorem uo_lt : OpR X (compareOp .Lt) oLt := by
  intro pins s σ H x y v u Q I rx ry h
  cases x <;> cases y <;> first
    | exact False.elim h
    | exact op_lt pins s σ H _ _ v u Q I rx ry ⟨_, _, rfl, rfl, h⟩
    | exact op_lt_str pins s σ H _ _ v u Q I rx ry ⟨_, _, rfl, rfl, h⟩
theorem uo_le : OpR X (compareOp .LtE) oLe := by
  intro pins s σ H x y v u Q I rx ry h
  cases x <;> cases y <;> first
    | exact False.elim h
    | exact op_le pins s σ H _ _ v u Q I rx ry ⟨_, _, rfl, rfl, h⟩
    | exact op_le_str pins s σ H _ _ v u Q I rx ry ⟨_, _, rfl, rfl, h⟩
theorem uo_gt : OpR X (compareOp .Gt) oGt := by
  intro pins s σ H x y v u Q I rx ry h
  cases x <;> cases y <;> first
    | exact False.elim h
    | exact op_gt pins s σ H _ _ v u Q I rx ry ⟨_, _, rfl, rfl, h⟩
    | exact op_gt_str pins s σ H _ _ v u Q I rx ry ⟨_, _, rfl, rfl, h⟩
theorem uo_ge : OpR X (compareOp .GtE) oGe := by
  intro pins s σ H x y v u Q I rx ry h
  cases x <;> cases y <;> first
    | exact False.elim h
    | exact op_ge pins s σ H _ _ v u Q I rx ry ⟨_, _, rfl, rfl, h⟩
    | exact op_ge_str pins s σ H _ _ v u Q I rx ry ⟨_, _, rfl, rfl, h⟩

/-! ### ==, is, in -/
def ng : Bool → Bool → Bool
  | false, b => b
  | true, b => !b
def oEq (K : PySem.W.Frag) : R2 := fun x y H Q => match scal x y with
  | true => Q (.bl (decide (x = y))) H
  | false => rEqD K x y H Q
def oNe (K : PySem.W.Frag) : R2 := fun x y H Q => match scal x y with
  | true => Q (.bl (!decide (x = y))) H
  | false => rNeD K x y H Q
theorem uo_eq (hu : X.A.units + 64 < cLine) : OpR X (compareOp .Eq) (oEq X.K) := by
  intro pins s σ H x y v u Q I rx ry h
  unfold oEq at h
  cases e : scal x y with
  | true => rw [e] at h; exact op_eq pins s σ H x y v u Q I rx ry ⟨e, h⟩
  | false => rw [e] at h; exact op_eqD hu pins s σ H x y v u Q I rx ry h
theorem uo_ne (hu : X.A.units + 64 < cLine) : OpR X (compareOp .NotEq) (oNe X.K) := by
  intro pins s σ H x y v u Q I rx ry h
  unfold oNe at h
  cases e : scal x y with
  | true => rw [e] at h; exact op_ne pins s σ H x y v u Q I rx ry ⟨e, h⟩
  | false => rw [e] at h; exact op_neD hu pins s σ H x y v u Q I rx ry h
def oIs (neg : Bool) : R2 := fun x y H Q => match y, x with
  | .non, x => Q (.bl (ng neg <| decide (x = .non))) H
  | .bl b, .bl a => Q (.bl (ng neg <| decide (a = b))) H
  | _, _ => False
theorem uo_is : OpR X (compareOp .Is) (oIs false) := by
  intro pins s σ H x y v u Q I rx ry h
  cases y with
  | non => exact op_isN pins s σ H _ _ v u Q I rx ry ⟨rfl, by simpa [oIs, ng] using h⟩
  | bl b =>
    cases x <;> first
      | exact False.elim h
      | skip
    rename_i a
    cases (show v = Value.bool a from rx)
    cases (show u = Value.bool b from ry)
    by_cases e : a = b
    · subst e
      exact wpAny_is_self rfl ⟨.bl true, H, I, rfl, by simpa [oIs, ng] using h⟩
    · exact wpAny_is_other rfl (fun z => e (Value.bool.inj z)) ⟨.bl false, H, I, rfl, by simpa [oIs, ng, e] using h⟩
  | _ => exact False.elim (by cases x <;> exact h)
theorem uo_isnt : OpR X (compareOp .IsNot) (oIs true) := by
  intro pins s σ H x y v u Q I rx ry h
  cases y with
  | non => exact op_notN pins s σ H _ _ v u Q I rx ry ⟨rfl, by simpa [oIs, ng] using h⟩
  | bl b =>
    cases x <;> first
      | exact False.elim h
      | skip
    rename_i a
    cases (show v = Value.bool a from rx)
    cases (show u = Value.bool b from ry)
    by_cases e : a = b
    · subst e
      exact wpAny_isNot_self rfl ⟨.bl false, H, I, rfl, by simpa [oIs, ng] using h⟩
    · exact wpAny_isNot_other rfl (fun z => e (Value.bool.inj z)) ⟨.bl true, H, I, rfl, by simpa [oIs, ng, e] using h⟩
  | _ => exact False.elim (by cases x <;> exact h)
/-- in: a sign in a text; data in a list; a key in a dict -/
def oIn (K : PySem.W.Frag) (neg : Bool) : R2 := fun x y H Q => match y with
  | .str z => (match x with
    | .str ⟨⟨[c]⟩⟩ => Q (.bl (ng neg <| decide (c ∈ z.cps.toList))) H
    | _ => False)
  | .ref a => (∃ o, DGet H a x o ∧ Q (.bl (ng neg <| o.isSome)) H) ∨ (∃ d ds, Dp K H x d ∧ Dp K H (.ref a) (.list ds) ∧ SeqAt.shaped d = true ∧ SeqAt.shaped (.list ds) = true ∧ Q (.bl (ng neg <| ds.any fun z => PyData.eqv z d)) H) ∨
      ∃ xs, (SqL K H a xs ∨ SqT K H a xs) ∧ flatV x = true ∧ xs.all flatV = true ∧ Q (.bl (ng neg <| inV x xs)) H
  | _ => False
theorem oIn_str {K : PySem.W.Frag} {neg : Bool} {x : V} {z : Str} {H : Hp} {Q : VK} (h : oIn K neg x (.str z) H Q) : ∃ c, x = .str ⟨⟨[c]⟩⟩ ∧ Q (.bl (ng neg <| decide (c ∈ z.cps.toList))) H := by
  unfold oIn at h
  simp only at h
  split at h
  · exact ⟨_, rfl, h⟩
  · exact h.elim
theorem uo_in (hu : X.A.units + 65 < cLine) : OpR X (compareOp .In) (oIn X.K false) := by
  intro pins s σ H x y v u Q I rx ry h
  cases y with
  | str z =>
    obtain ⟨c, rfl, q⟩ := oIn_str h
    exact op_in_sign pins s σ H _ _ v u Q I rx ry ⟨c, z, rfl, rfl, q⟩
  | ref a =>
    rcases h with ⟨o, g, q⟩ | ⟨d, ds, h1, h2, h3, h4, q⟩ | ⟨xs, h1, h2, h3, q⟩
    · cases (show u = Value.ref a from ry)
      exact d_in (by omega) I g rx fun s2 I2 => ⟨.bl _, H, I2, rfl, q⟩
    · exact op_inD hu pins s σ H x _ v u Q I rx ry ⟨d, ds, h1, h2, h3, h4, q⟩
    · exact op_in_seq pins s σ H x _ v u Q I rx ry ⟨a, xs, rfl, h1, h2, h3, q⟩
  | _ => exact False.elim h
theorem uo_nin (hu : X.A.units + 65 < cLine) : OpR X (compareOp .NotIn) (oIn X.K true) := by
  intro pins s σ H x y v u Q I rx ry h
  cases y with
  | str z =>
    obtain ⟨c, rfl, q⟩ := oIn_str h
    exact op_notIn_sign pins s σ H _ _ v u Q I rx ry ⟨c, z, rfl, rfl, q⟩
  | ref a =>
    rcases h with ⟨o, g, q⟩ | ⟨d, ds, h1, h2, h3, h4, q⟩ | ⟨xs, h1, h2, h3, q⟩
    · cases (show u = Value.ref a from ry)
      exact d_notIn (by omega) I g rx fun s2 I2 => ⟨.bl _, H, I2, rfl, q⟩
    · exact op_notInD hu pins s σ H x _ v u Q I rx ry ⟨d, ds, h1, h2, h3, h4, q⟩
    · exact op_notIn_seq pins s σ H x _ v u Q I rx ry ⟨a, xs, rfl, h1, h2, h3, q⟩
  | _ => exact False.elim h

/-! ### the kinds of values -/
inductive Kd where
  | non | bl | int | str | lst | tup | dct
def Kd.nm : Kd → String
  | .non => "NoneType" | .bl => "bool" | .int => "int" | .str => "str" | .lst => "list" | .tup => "tuple" | .dct => "dict"
def isB : Kd → Kd → Bool
  | .non, .non => true | .bl, .bl => true | .bl, .int => true | .int, .int => true | .str, .str => true | .lst, .lst => true | .tup, .tup => true | .dct, .dct => true
  | _, _ => false
theorem isB_ok (t c : Kd) (hc : c ≠ .non) : kitB t.nm c.nm = some (isB t c) := by
  cases c <;> first
    | exact absurd rfl hc
    | (cases t <;> decide +kernel)
/-- what stands at an address -/
inductive AtT (K : PySem.W.Frag) (H : Hp) (a : Addr) : Kd → Prop where
  | lst {xs : List V} (h : SqL K H a xs) : AtT K H a .lst
  | tup {xs : List V} (h : SqT K H a xs) : AtT K H a .tup
  | dk {kvs : List (Key × V)} (h : H a = some (.dK kvs)) : AtT K H a .dct
  | dt {kvs : List (List Key × V)} (h : H a = some (.dT kvs)) : AtT K H a .dct
theorem AtT.ty {K : PySem.W.Frag} {H : Hp} {a : Addr} {t : Kd} (h : AtT K H a t) : TyX K H (.ref a) (.type t.nm) := by
  cases h with
  | lst h =>
    rcases h with (h | ⟨o, h⟩) | ⟨o, its, n, h, hc, _⟩
    · exact .base (.lst h)
    · exact .base (.frz h)
    · exact .kList h hc
  | tup h =>
    rcases h with (h | ⟨o, h⟩) | ⟨o, its, n, h, hc, _⟩
    · exact .base (.tup h)
    · exact .fTuple h
    · exact .kTuple h hc
  | dk h => exact .base (.dK h)
  | dt h => exact .base (.dT h)
def isV (K : PySem.W.Frag) (H : Hp) (f : Kd → Bool) (Q : Bool → Prop) : V → Prop
  | .non => Q (f .non)
  | .bl _ => Q (f .bl)
  | .int _ => Q (f .int)
  | .str _ => Q (f .str)
  | .ref a => ∃ t, AtT K H a t ∧ Q (f t)
  | _ => False
theorem isV_ty {K : PySem.W.Frag} {H : Hp} {f : Kd → Bool} {Q : Bool → Prop} {x : V} (h : isV K H f Q x) : ∃ t, TyX K H x (.type (Kd.nm t)) ∧ Q (f t) := by
  cases x <;> first
    | exact h.elim
    | exact ⟨.non, .base .non, h⟩
    | exact ⟨.bl, .base (.bl _), h⟩
    | exact ⟨.int, .base (.int _), h⟩
    | exact ⟨.str, .base (.str _), h⟩
    | (obtain ⟨t, h1, h2⟩ := h; exact ⟨t, h1.ty, h2⟩)
def rIs1 (K : PySem.W.Frag) (c : Kd) : List V → Hp → VK → Prop := fun vs H Q => match vs with
  | [x, .ty n] => n = c.nm ∧ isV K H (fun t => isB t c) (fun b => Q (.bl b) H) x
  | _ => False
theorem call_is1 (c : Kd) (hc : c ≠ .non := by intro z; cases z) : CallR X (.builtin "isinstance") (rIs1 X.K c) := imC call_isi fun vs H Q h => by
  unfold rIs1 at h
  split at h
  · obtain ⟨rfl, h⟩ := h
    obtain ⟨t, h1, h2⟩ := isV_ty h
    exact ⟨_, _, _, _, _, rfl, .ty _, h1, kit_ty (isB_ok t c hc), h2⟩
  · exact h.elim
def rIs2 (K : PySem.W.Frag) (c d : Kd) : List V → Hp → VK → Prop := fun vs H Q => match vs with
  | [x, .ref p] => H p = some (.tup [.ty c.nm, .ty d.nm]) ∧ isV K H (fun t => isB t c || isB t d) (fun b => Q (.bl b) H) x
  | _ => False
theorem call_is2 (c d : Kd) (hc : c ≠ .non := by intro z; cases z) (hd : d ≠ .non := by intro z; cases z) : CallR X (.builtin "isinstance") (rIs2 X.K c d) := imC call_isiT fun vs H Q h => by
  unfold rIs2 at h
  split at h
  · obtain ⟨hp, h⟩ := h
    obtain ⟨t, h1, h2⟩ := isV_ty h
    refine ⟨_, _, _, _, _, _, rfl, hp, .cons (.ty _) (.cons (.ty _) .nil), h1, ?_, h2⟩
    exact kitAny_cons (kit_ty (isB_ok t c hc)) (fun e => by rw [e, Bool.false_or]; exact kitAny_cons (kit_ty (isB_ok t d hd)) (fun e2 => by rw [e2]; exact kitAny_nil) fun e2 => by rw [e2]) fun e => by rw [e]; rfl
  · exact h.elim

/-! ### built-ins by values -/
/-- a list or a tuple -/
def Sq (K : PySem.W.Frag) (H : Hp) (a : Addr) (xs : List V) : Prop := SqL K H a xs ∨ SqT K H a xs
def lenH (K : PySem.W.Frag) (H : Hp) (a : Addr) (n : Nat) : Prop := (∃ xs, Sq K H a xs ∧ n = xs.length) ∨ (∃ kvs : List (Key × V), H a = some (.dK kvs) ∧ n = kvs.length)
def rLenU (K : PySem.W.Frag) : List V → Hp → VK → Prop := fun vs H Q => match vs with
  | [.str z] => z.length ≤ sizeLine ∧ Q (.int z.length) H
  | [.ref a] => ∃ n, lenH K H a n ∧ Q (.int (n : Nat)) H
  | _ => False
theorem cu_len : CallR X (.builtin "len") (rLenU X.K) := by
  intro pins s σ H vs us Q I r h
  unfold rLenU at h
  split at h
  · exact call_len_str pins s σ H _ us Q I r ⟨_, rfl, h.1, h.2⟩
  · obtain ⟨n, h1 | h1, q⟩ := h
    · obtain ⟨xs, h2, rfl⟩ := h1
      exact call_len_seq pins s σ H _ us Q I r ⟨_, xs, rfl, h2, q⟩
    · obtain ⟨kvs, h2, rfl⟩ := h1
      obtain ⟨u, rfl, ru⟩ := vals1 r
      cases ru
      exact d_len I (.inl h2) fun t s2 I2 => ⟨.int kvs.length, H, I2, ⟨t, rfl⟩, q⟩
  · exact h.elim
def rIntU : List V → Hp → VK → Prop := fun vs H Q => match vs with
  | [.int i] => Q (.int i) H
  | [.bl k] => Q (.int (if k then 1 else 0)) H
  | _ => False
theorem cu_int : CallR X (.type "int") rIntU := imC call_int1 fun vs H Q h => by
  unfold rIntU at h
  split at h
  · exact .inl ⟨_, rfl, h⟩
  · exact .inr ⟨_, rfl, h⟩
  · exact h.elim
def rBoolU : List V → Hp → VK → Prop := fun vs H Q => match vs with
  | [.int i] => Q (.bl (i != 0)) H
  | [.bl k] => Q (.bl k) H
  | _ => False
theorem cu_bool : CallR X (.type "bool") rBoolU := imC call_bool1 fun vs H Q h => by
  unfold rBoolU at h
  split at h
  · exact .inl ⟨_, rfl, h⟩
  · exact .inr ⟨_, rfl, h⟩
  · exact h.elim
def rAbsU : List V → Hp → VK → Prop := fun vs H Q => match vs with
  | [.int i] => Q (.int (if i < 0 then -i else i)) H
  | _ => False
theorem cu_abs : CallR X (.builtin "abs") rAbsU := imC call_abs fun vs H Q h => by
  unfold rAbsU at h
  split at h
  · exact ⟨_, rfl, h⟩
  · exact h.elim
/-- repr of a flat value -/
def rReprS : List V → Hp → VK → Prop := fun vs H Q => match vs with
  | [.bl b] => Q (.str (if b then "True" else "False" : Str)) H
  | [.non] => Q (.str "None") H
  | [.int i] => i.natAbs.log2 < 1920 ∧ Q (.str (toString i)) H
  | [.str z] => (reprText z).length ≤ sizeLine ∧ Q (.str (reprText z)) H
  | _ => False
theorem cu_reprS : CallR X (.builtin "repr") rReprS := by
  intro pins s σ H vs us Q I r h
  unfold rReprS at h
  split at h
  · obtain ⟨u, rfl, ru⟩ := vals1 r
    cases ru
    exact PySem.P.repr_of_bool ⟨.str _, H, I.tok _, ⟨_, rfl⟩, h⟩
  · obtain ⟨u, rfl, ru⟩ := vals1 r
    cases ru
    exact PySem.P.repr_of_none ⟨.str _, H, I.tok _, ⟨_, rfl⟩, h⟩
  · obtain ⟨u, rfl, t, rfl⟩ := vals1 r
    exact PySem.P.repr_of_int h.1 ⟨.str _, H, I.tok _, ⟨_, rfl⟩, h.2⟩
  · obtain ⟨u, rfl, t, rfl⟩ := vals1 r
    exact PySem.P.repr_of_str ⟨.str _, H, I.tok _, ⟨_, rfl⟩, h.2⟩ h.1
  · exact h.elim
def rListU (K : PySem.W.Frag) : List V → Hp → VK → Prop := fun vs H Q => match vs with
  | [.ref a] => ∃ xs, Sq K H a xs ∧ ∀ p, H p = none → Q (.ref p) (upd H p (.lst xs))
  | _ => False
theorem cu_list : CallR X (.type "list") (rListU X.K) := imC call_list_of fun vs H Q h => by
  unfold rListU at h
  split at h
  · obtain ⟨xs, h1, q⟩ := h
    exact ⟨_, xs, rfl, h1, q⟩
  · exact h.elim
def rTupU (K : PySem.W.Frag) : List V → Hp → VK → Prop := fun vs H Q => match vs with
  | [.ref a] => ∃ xs, (SqL K H a xs ∧ ∀ p, H p = none → Q (.ref p) (upd H p (.tup xs))) ∨ (SqT K H a xs ∧ Q (.ref a) H)
  | _ => False
theorem cu_tup : CallR X (.type "tuple") (rTupU X.K) := imC call_tuple_of fun vs H Q h => by
  unfold rTupU at h
  split at h
  · obtain ⟨xs, h1⟩ := h
    exact ⟨_, xs, rfl, h1⟩
  · exact h.elim
def rAllU (K : PySem.W.Frag) : List V → Hp → VK → Prop := fun vs H Q => match vs with
  | [.ref a] => ∃ bs : List Bool, SqL K H a (bs.map V.bl) ∧ Q (.bl (bs.all id)) H
  | _ => False
theorem cu_all (hc : X.calm = true) : CallR X (.builtin "all") (rAllU X.K) := imC (cr_all hc) fun vs H Q h => by
  unfold rAllU at h
  split at h
  · obtain ⟨bs, h1, q⟩ := h
    exact ⟨_, bs, rfl, h1, q⟩
  · exact h.elim
def rAnyU (K : PySem.W.Frag) : List V → Hp → VK → Prop := fun vs H Q => match vs with
  | [.ref a] => ∃ bs : List Bool, SqL K H a (bs.map V.bl) ∧ Q (.bl (bs.any id)) H
  | _ => False
theorem cu_any (hc : X.calm = true) : CallR X (.builtin "any") (rAnyU X.K) := imC (cr_any hc) fun vs H Q h => by
  unfold rAnyU at h
  split at h
  · obtain ⟨bs, h1, q⟩ := h
    exact ⟨_, bs, rfl, h1, q⟩
  · exact h.elim

/-! ### subscripts -/
def oIx (K : PySem.W.Frag) : R2 := fun x y H Q => match x, y with
  | .str z, .int i => z.length ≤ sizeLine ∧ ∃ c, atI z.cps.toList i = some c ∧ Q (.str ⟨#[c]⟩) H
  | .ref a, y => (∃ xs i v, y = .int i ∧ Sq K H a xs ∧ atI xs i = some v ∧ Q v H) ∨ ∃ v, DGet H a y (some v) ∧ Q v H
  | _, _ => False
theorem ix_dget (hu : X.A.units + 1 < cLine) : IxR X (fun x y H Q => ∃ a v, x = .ref a ∧ DGet H a y (some v) ∧ Q v H) := by
  intro value slice pins s σ H x y v u Q I rx ry h hs
  obtain ⟨a, r, rfl, g, q⟩ := h
  cases (show v = Value.ref a from rx)
  exact tail_any (dict_typeIs I g) PySem.F.slot_dict_getitem.lookup (d_getItem hu I g ry fun w' s3 I3 rw' => ⟨r, H, I3, rw', q⟩) hs
theorem ux (hu : X.A.units + 1 < cLine) : IxR X (oIx X.K) := by
  intro value slice pins s σ H x y v u Q I rx ry h hs
  unfold oIx at h
  split at h
  · obtain ⟨h1, c, h2, q⟩ := h
    exact ix_str value slice pins s σ H _ _ v u Q I rx ry ⟨_, _, _, rfl, rfl, h1, h2, q⟩ hs
  · rcases h with ⟨xs, i, z, rfl, h1 | h1, h2, q⟩ | ⟨z, g, q⟩
    · exact ix_list value slice pins s σ H _ _ v u Q I rx ry ⟨_, _, _, _, rfl, rfl, h1, h2, q⟩ hs
    · exact ix_tup value slice pins s σ H _ _ v u Q I rx ry ⟨_, _, _, _, rfl, rfl, h1, h2, q⟩ hs
    · exact ix_dget hu value slice pins s σ H _ _ v u Q I rx ry ⟨_, z, rfl, g, q⟩ hs
  · exact h.elim
def oSl (K : PySem.W.Frag) : V → Option Int → Option Int → Hp → VK → Prop := fun x lo hi H Q => match x with
  | .str z => z.length ≤ sizeLine ∧ Q (.str (cutS z lo hi)) H
  | .ref a => ∃ xs, (SqL K H a xs ∧ ∀ p, H p = none → Q (.ref p) (upd H p (.lst (cutV xs lo hi)))) ∨ (SqT K H a xs ∧
      (HT.sIx xs.length 0 lo = 0 ∧ HT.sIx xs.length xs.length hi = xs.length → Q (.ref a) H) ∧
      (¬ (HT.sIx xs.length 0 lo = 0 ∧ HT.sIx xs.length xs.length hi = xs.length) → ∀ p, H p = none → Q (.ref p) (upd H p (.tup (cutV xs lo hi)))))
  | _ => False
theorem us : SlR X (oSl X.K) := by
  intro pins s σ H x v vl vu lo hi sl Q I rx hs pl pu h
  unfold oSl at h
  split at h
  · exact sl_str pins s σ H _ v vl vu lo hi sl Q I rx hs pl pu ⟨_, rfl, h.1, h.2⟩
  · obtain ⟨xs, ⟨h1, q⟩ | ⟨h1, q1, q2⟩⟩ := h
    · exact sl_list pins s σ H _ v vl vu lo hi sl Q I rx hs pl pu ⟨_, xs, rfl, h1, q⟩
    · exact sl_tupA pins s σ H _ v vl vu lo hi sl Q I rx hs pl pu ⟨_, xs, rfl, h1, q1, q2⟩
  · exact h.elim
def mPart (t : TE) : TO := fun σ H Q => t σ H fun x H1 => match x with
  | .int i => Q (some i) H1
  | _ => False
theorem upo {e : Expr} {te : TE} (h : PE X e te) : PO X (some e) (mPart te) := by
  refine ⟨fun pins s σ H Q I hw => ?_⟩
  rw [evalPart_some]
  refine thn (h.run pins s σ H _ I hw) fun u s1 z => ?_
  obtain ⟨x, H1, I1, r1, q1⟩ := z
  cases x with
  | int i =>
    obtain ⟨t, rfl⟩ := r1
    exact ⟨some i, H1, I1, .int i t, q1⟩
  | _ => exact False.elim q1

def oNeg : V → Hp → VK → Prop := fun x H Q => match x with
  | .int i => Q (.int (-i)) H
  | _ => False
theorem uo_neg : UnR X (unaryOp .USub) oNeg := by
  intro pins s σ H x v Q I rx h
  cases x <;> first
    | exact False.elim h
    | exact un_neg pins s σ H _ v Q I rx ⟨_, rfl, h⟩
/-- a chain of two comparisons as a test -/
theorem ut_chain {op op' : CmpOp} {r r' : R2} (ho : OpR X (compareOp op) r) (ho' : OpR X (compareOp op') r') (ha : PE X a ta) (hb : PE X b tb) (hc : PE X c tc)
    (hm : lastMarks [op, op'] [b, c] = false := by with_unfolding_all rfl) : PT X (.Compare a [op, op'] [b, c] pos) (mTest (mChain r r' ta tb tc)) := by
  refine ⟨fun pins s σ H Q I h => ?_⟩
  refine isTrue_chain (thn (ha.run pins s σ H _ I h) fun v s1 z => ?_) hm
  obtain ⟨x, H1, I1, r1, q1⟩ := z
  refine test_link (thn (hb.run pins s1 σ H1 _ I1 q1) fun u s2 z2 => ?_)
  obtain ⟨y, H2, I2, r2, q2⟩ := z2
  refine thn (ho pins s2 σ H2 x y v u _ I2 r1 r2 q2) fun d s3 z3 => ?_
  obtain ⟨z, H3, I3, r3, q3⟩ := z3
  cases z with
  | bl k =>
    cases r3
    refine wpAny_truthy_bool ?_
    cases k with
    | false => exact ite_ff ⟨H3, I3, q3⟩
    | true =>
      refine ite_tt (test_last (thn (hc.run pins s3 σ H3 _ I3 q3) fun w' s4 z4 => ?_))
      obtain ⟨z', H4, I4, r4, q4⟩ := z4
      refine thn (ho' pins s4 σ H4 y z' u w' _ I4 r2 r4 q4) fun d' s5 z5 => ?_
      obtain ⟨z2, H5, I5, r5, q5⟩ := z5
      obtain ⟨k2, rfl, q6⟩ := bQ_bl q5
      cases r5
      exact wpAny_truthy_bool ⟨H5, I5, q6⟩
  | _ => exact False.elim q3
/-- any value's truth -/
def tru (K : PySem.W.Frag) (Q : Bool → Hp → Prop) : VK := fun x H => match x with
  | .bl k => Q k H
  | .non => Q false H
  | .int i => Q (i != 0) H
  | .str z => z.length ≤ sizeLine ∧ Q ((z.length : Int) != 0) H
  | .ref p => ∃ k, TruV K (.ref p) H k ∧ Q k H
  | _ => False
def mTru (K : PySem.W.Frag) (t : TE) : TT := fun σ H Q => t σ H (tru K Q)
theorem utt {e : Expr} {t : TE} (h : PE X e t) (he : ∀ whole, isTrue e X.env whole = (do let v ← whole; standAt e.pos; holding [v] (truthy v)) := by intro _; rfl) : PT X e (mTru X.K t) := by
  refine ⟨fun pins s σ H Q I hw => isTrue_plain (thn (h.run pins s σ H _ I hw) fun v s1 q => ?_) (he _)⟩
  obtain ⟨x, H1, I1, r1, q1⟩ := q
  refine tru_ok pins s1 σ H1 x v Q I1 r1 ?_
  cases x with
  | bl k => exact ⟨k, rfl, q1⟩
  | non => exact ⟨false, rfl, q1⟩
  | int i => exact ⟨_, rfl, q1⟩
  | str z => exact ⟨_, ⟨q1.1, rfl⟩, q1.2⟩
  | ref p => exact q1
  | _ => exact False.elim q1
/-! ### what is walked -/
theorem PIor {tg it : Expr} {r1 r2 : TI} (h1 : PI X tg it r1) (h2 : PI X tg it r2) : PI X tg it (fun σ H R => r1 σ H R ∨ r2 σ H R) :=
  ⟨fun pins s σ H R I h => h.elim (h1.run pins s σ H R I) (h2.run pins s σ H R I)⟩
def iU (K : PySem.W.Frag) (te : TE) : TI := fun σ H R => iList K te σ H R ∨ iTup K te σ H R ∨ iStr te σ H R
theorem ui {tg e : Expr} {te : TE} (he : PE X e te) : PI X tg e (iU X.K te) := PIor (pi_list he) (PIor (pi_tup he) (pi_str he))
/-! ### stores -/
def oSet (K : PySem.W.Frag) : V → V → V → Hp → (Hp → Prop) → Prop := fun o i v H Q => match o with
  | .ref p => (∃ xs k j, i = .int k ∧ H p = some (.lst xs) ∧ ixN xs.length k = some j ∧ Q (upd H p (.lst (xs.set j v)))) ∨ ∃ H', DPut H p i v H' ∧ Q H'
  | _ => False
theorem uset (hu : X.A.units + 1 < cLine) : PSet X (oSet X.K) := by
  intro pins s σ H o i v ov iv u Q I ro ri rv h
  cases o with
  | ref p =>
    rcases h with ⟨xs, k, j, rfl, h1, h2, q⟩ | ⟨H2, h1, q⟩
    · exact set_list pins s σ H _ _ v ov iv u Q I ro ri rv ⟨p, xs, k, j, rfl, rfl, h1, h2, q⟩
    · cases (show ov = Value.ref p from ro)
      exact d_setItem hu I h1 ri rv fun s2 I2 => ⟨H2, I2, q⟩
  | _ => exact False.elim h
/-! ### calls of the text's defs -/
/-- the def x keeps its promise -/
structure Cal (P : Program) (w : World) (K : PySem.W.Frag) (mg : Str → Option Value) (base : Heap) (CX : CXT) (x : Str) (k : Nat) (ps : List Str) (sp : Sp) : Prop where
  ex : ∃ fd, FnOk P w K mg base CX k (He.ga K x) fd ps sp ∧ Binds K fd ps []
  at_ : mg x = some (.ref (He.ga K x))
  kp : PySem.W.keepIn K (.ref (He.ga K x)) = true
variable {CX : CXT} {x : Str} {k : Nat} {ps : List Str} {sp : Sp} {E : XK} {e : Expr} {es : List Expr} {t : TA} {p : Pos}
theorem ucall (F : Cal X.prog X.w X.K X.mg X.base CX x k ps sp) (hr : Room k X.A) (hg : Gl X x) (hx : Passes CX X E)
    (ha : PA X (e :: es) t) (hdb : (x == ("__debug__" : Str)) = false := by decide) (he : starEach (e :: es) X.env = (false, eval e X.env) :: starEach es X.env := by rfl) (hpl : (backTo pos (starEach es X.env)).any (·.1) = false := by rfl) :
    PE X (.Call (.Name x p) (e :: es) [] pos) (tCall sp [] E t) := by
  obtain ⟨fd, h1, h2⟩ := F.ex
  exact pe_call h1 hr hg F.at_ F.kp h2 .nil hx ha hdb he hpl
theorem ucall0 (F : Cal X.prog X.w X.K X.mg X.base CX x k ps sp) (hr : Room k X.A) (hg : Gl X x) (hx : Passes CX X E) (hdb : (x == ("__debug__" : Str)) = false := by decide) :
    PE X (.Call (.Name x p) [] [] pos) (tCall sp [] E tNil) := by
  obtain ⟨fd, h1, h2⟩ := F.ex
  exact pe_call0 h1 hr hg F.at_ F.kp h2 .nil hx hdb
/-! ### the module's constants -/
theorem ug_str {z : Str} (h : ∃ t, X.mg x = some (.str z t)) (hg : Gl X x) (hd : (x == ("__debug__" : Str)) = false := by decide) : PE X (.Name x pos) (tC (.str z)) := by
  obtain ⟨t, h⟩ := h
  exact pe_glob hg h ⟨t, rfl⟩ hd
theorem ug_int {z : Int} (h : ∃ t, X.mg x = some (.int z t)) (hg : Gl X x) (hd : (x == ("__debug__" : Str)) = false := by decide) : PE X (.Name x pos) (tC (.int z)) := by
  obtain ⟨t, h⟩ := h
  exact pe_glob hg h ⟨t, rfl⟩ hd
theorem ug_ref {z : Addr} (h : X.mg x = some (.ref z)) (hg : Gl X x) (hd : (x == ("__debug__" : Str)) = false := by decide) : PE X (.Name x pos) (tC (.ref z)) :=
  pe_glob hg h rfl hd
theorem hu65 {k : Nat} {A : Around} (r : Room k A) : A.units + 65 < cLine := by have := r.un; omega
theorem ugn (i : Nat) (nd : X.N.Nodup) (hi : X.N[i]? = some x := by rfl) (hx : Loc X.env.scope x := by first | exact Or.inl rfl | exact Or.inr rfl)
    (hf : X.fn x = true ∨ X.env.scope.names.lookup x = some .local := by first | exact .inl rfl | exact .inr rfl | assumption) : PG X (.Name x pos) (gName i) := pg_name nd hi hx hf
theorem us_set (i : Nat) {te : TE} {pos' : Pos} (nd : X.N.Nodup) (he : PE X e te) (hi : X.N[i]? = some x := by rfl) (hx : Loc X.env.scope x := by first | exact Or.inl rfl | exact Or.inr rfl)
    (hs : swapsWith e (some (.Name x pos')) pos.line X.env = pure false := by rfl) (hf : X.fn x = true ∨ X.env.scope.names.lookup x = some .local := by first | exact .inl rfl | exact .inr rfl | assumption) :
    PS X (.Assign [.Name x pos'] e pos) (tAsg te (gName i)) := ps_set nd hi hx he hs hf
abbrev FnP (K : PySem.W.Frag) (x qual : Str) (st : Stmt) (f : Addr) (fd : FuncData) : Prop := FunD K x qual (defArgs st) (defBody st) (defScope st) [] [] f fd
abbrev CalL (P : Program) (w : World) (K : PySem.W.Frag) (mg : Str → Option Value) (base : Heap) (x : Str) (k : Nat) (ps : List Str) (sp : Sp) : Prop := Cal P w K mg base CX0 x k ps sp
def prm {α : Type} (d : α) (perm : List Nat) (zs : List α) : List α := perm.map fun i => zs.getD i d
theorem prm_rel {zs : List V} {ws : List Value} (r : Vals zs ws) : ∀ perm : List Nat, Vals (prm V.non perm zs) (prm Value.none perm ws)
  | [] => .nil
  | i :: l => by
    refine .cons ?_ (prm_rel r l)
    show RelV (zs.getD i V.non) (ws.getD i Value.none)
    rw [List.getD_eq_getElem?_getD, List.getD_eq_getElem?_getD]
    cases q : zs[i]? with
    | none => rw [r.none_of q]; rfl
    | some v =>
      obtain ⟨u, h1, h2⟩ := r.get q
      rw [h1]
      exact h2
/-- a call by keywords alone -/
structure CalK (P : Program) (w : World) (K : PySem.W.Frag) (mg : Str → Option Value) (base : Heap) (CX : CXT) (x : Str) (k : Nat) (ps ks : List Str) (perm : List Nat) (sp : Sp) : Prop where
  ex : ∃ fd, FnOk P w K mg base CX k (He.ga K x) fd ps sp ∧ ∀ (s : Shared) (ws : List Value), ws.length = ks.length → BindsTo s fd ⟨[], ks.zip ws⟩ (ps.zip (prm .none perm ws))
  at_ : mg x = some (.ref (He.ga K x))
  kp : PySem.W.keepIn K (.ref (He.ga K x)) = true
theorem bindsKA {K : PySem.W.Frag} {qual : Str} {params : Arguments} {body : List Stmt} {scope : Scope} {f : Addr} {fd : FuncData} {ks : List Str} {perm : List Nat} (F : FunD K x qual params body scope [] [] f fd)
    (h : ∀ (kV doc pm : Value) (an : Option Addr) (cdv ct : Value) (ws : List Value), ws.length = ks.length → bindArgs (PySem.W.fnOf x qual params body scope .none kV doc pm an cdv ct) ⟨[], ks.zip ws⟩ = pure (ps.zip (prm .none perm ws)))
    (s : Shared) (ws : List Value) (hl : ws.length = ks.length) : BindsTo s fd ⟨[], ks.zip ws⟩ (ps.zip (prm .none perm ws)) := by
  obtain ⟨oc, od, dV, kV, doc, pm, an, cdv, ct, osl, rfl, lk, hcd, hD, hK⟩ := F.ex
  rcases hD with ⟨_, rfl⟩ | ⟨e, _⟩
  · exact .of_eq (h kV doc pm an cdv ct ws hl)
  · exact absurd rfl e
def tCallP (perm : List Nat) (sp : Sp) (E : XK) (t : TA) : TE := fun σ H Q => t σ H fun zs H1 => zs.length = perm.length ∧ sp (prm .non perm zs) H1 Q E
theorem ucallk0 {ks : List Str} {perm : List Nat} {kws : List Keyword} {tk : TA} (F : CalK X.prog X.w X.K X.mg X.base CX x k ps ks perm sp) (hr : Room k X.A) (hg : Gl X x) (hx : Passes CX X E) (hkw : PK X kws tk)
    (hpk : perm.length = ks.length := by rfl) (hall : (backToKw pos (keywordEach kws X.env)).all (·.1.isSome) = true := by rfl) (hks : (backToKw pos (keywordEach kws X.env)).filterMap (·.1) = ks := by rfl)
    (hdb : (x == ("__debug__" : Str)) = false := by decide) (hpl : ((backTo pos (starEach [] X.env)).any (·.1) || (backToKw pos (keywordEach kws X.env)).any (·.1.isNone)) = false := by rfl) :
    PE X (.Call (.Name x p) [] kws pos) (tCallP perm sp E tk) := by
  obtain ⟨fd, F1, F2⟩ := F.ex
  refine ⟨fun pins s σ H Q I h => ?_⟩
  refine wpAny_Call_Name_kw (ld_glob I hg F.at_ ?_ hdb)
  refine PySem.W.callWith_KW0 (h₀ := X.base) I.ok.mod.kin F.kp hall (thn (hkw.run pos pins s σ H _ I h) fun ws s2 z => ?_) hpl
  obtain ⟨zs, H2, I2, rz, hl, q2⟩ := z
  refine ⟨I2.kIn, ?_⟩
  rw [hks]
  have r2 := prm_rel rz perm
  refine wpAny_call (codeAny_mono (F1.run X.A X.stack s2 H2 ⟨[] ++ [], ks.zip ws⟩ _ _ Q E hr I2.env0 (F2 s2 ws (by rw [← rz.length, hl, hpk])) r2 q2) fun r s' hq => ?_)
  cases r with
  | error e => exact hx pins σ H2 s2 e s' I2 hq
  | ok fl =>
    cases fl with
    | ret u => exact I2.after hq
    | next => exact False.elim hq
    | brk => exact False.elim hq
    | cont => exact False.elim hq
def rJoin (K : PySem.W.Frag) : V → List V → Hp → VK → Prop := fun x xs H Q => ∃ a p, ∃ ys : List Str, x = .str a ∧ xs = [.ref p] ∧ (SqL K H p (ys.map V.str) ∨ SqT K H p (ys.map V.str)) ∧
  (ys.map (·.length)).sum + ys.length * a.length ≤ 16777216 ∧ Q (.str (Txt.join a ys)) H
end
end GW

namespace GW
open PySem L2
/-! ### branches -/
theorem brd {b : Bool} {A B : Prop} (h1 : b = true → A) (h2 : b = false → B) : Decidable.rec (motive := fun _ => Prop) (fun _ => B) (fun _ => A) (instDecidableEqBool b true) := by
  cases b with
  | true => exact h1 rfl
  | false => exact h2 rfl
theorem brD {p : Prop} [Decidable p] {A B : Prop} (h1 : p → A) (h2 : ¬ p → B) : Decidable.rec (motive := fun _ => Prop) (fun _ => B) (fun _ => A) (instDecidableEqBool (decide p) true) :=
  brd (fun h => h1 (of_decide_eq_true h)) fun h => h2 (of_decide_eq_false h)
theorem brN {p : Prop} [Decidable p] {A B : Prop} (h1 : ¬ p → A) (h2 : p → B) : Decidable.rec (motive := fun _ => Prop) (fun _ => B) (fun _ => A) (instDecidableEqBool (!decide p) true) :=
  brd (fun h => h1 (by simpa using h)) fun h => h2 (by simpa using h)
/-! ### heaps -/
theorem same_upd {H H' : Hp} {p : Addr} {o : HO} (e : Same H H') (n : H p = none) : Same H (upd H' p o) := fun b u h => by
  rw [upd_ne (ne_of_none h n)]
  exact e b u h
theorem same_new {H : Hp} {p : Addr} {o : HO} (n : H p = none) : Same H (L2.upd H p o) := same_upd (Same.refl H) n
theorem same_seqT {K : PySem.W.Frag} {H H' : Hp} {a : Addr} {xs : List V} (e : Same H H') (h : SqT K H a xs) : SqT K H' a xs := by
  rcases h with (h | ⟨o, h⟩) | h
  · exact .inl (.inl (e _ _ h))
  · exact .inl (.inr ⟨o, e _ _ h⟩)
  · exact .inr h
theorem same_sq {K : PySem.W.Frag} {H H' : Hp} {a : Addr} {xs : List V} (e : Same H H') (h : Sq K H a xs) : Sq K H' a xs := h.elim (fun h => .inl (e.seq h)) fun h => .inr (same_seqT e h)
theorem upd_none {H : Hp} {p q : Addr} {o : HO} (h : upd H p o q = none) : H q = none ∧ q ≠ p := by
  by_cases e : q = p
  · subst e; rw [upd_same] at h; cases h
  · rw [upd_ne e] at h; exact ⟨h, e⟩
/-- all but p stands as it stood -/
def Kp (p : Addr) (H H' : Hp) : Prop := ∀ b o, b ≠ p → H b = some o → H' b = some o
theorem Kp.refl {p : Addr} (H : Hp) : Kp p H H := fun _ _ _ h => h
theorem Kp.trans {p : Addr} {H H1 H2 : Hp} (a : Kp p H H1) (b : Kp p H1 H2) : Kp p H H2 := fun c o n h => b c o n (a c o n h)
theorem same_kp {p : Addr} {H H' : Hp} (e : Same H H') : Kp p H H' := fun b o _ h => e b o h
theorem Kp.upd {p : Addr} {H H' : Hp} {o : HO} (e : Kp p H H') : Kp p H (upd H' p o) := fun b u n h => by
  rw [upd_ne n]
  exact e b u n h
theorem Kp.new {p q : Addr} {H H' : Hp} {o : HO} (e : Kp p H H') (n : H q = none) : Kp p H (L2.upd H' q o) := fun b u hn h => by
  rw [upd_ne (ne_of_none h n)]
  exact e b u hn h
/-- an object written: what is known of the heap behind it -/
theorem heapS {P : Hp → Prop} {H : Hp} {p : Addr} {o : HO} (h : ∀ H1 : Hp, H1 p = some o → Kp p H H1 → P H1) : P (upd H p o) := h _ upd_same (Kp.upd (Kp.refl H))
/-- a new object laid -/
theorem heapN {P : Hp → Prop} {H : Hp} {p : Addr} {o : HO} (n : H p = none) (h : ∀ H1 : Hp, H1 p = some o → Same H H1 → P H1) : P (upd H p o) := h _ upd_same (same_new n)
theorem heapS2 {α : Type} {P : Hp → α → Prop} {Q : α} {H : Hp} {p : Addr} {o : HO} (h : ∀ H1 : Hp, H1 p = some o → Kp p H H1 → P H1 Q) : P (upd H p o) Q := h _ upd_same (Kp.upd (Kp.refl H))
theorem heapN2 {α : Type} {P : Hp → α → Prop} {Q : α} {H : Hp} {p : Addr} {o : HO} (n : H p = none) (h : ∀ H1 : Hp, H1 p = some o → Same H H1 → P H1 Q) : P (upd H p o) Q := h _ upd_same (same_new n)
/-! ### comprehensions that change nothing -/
section
variable {J : It} {G : Hp → Prop} {Y : Nat → Hp → V → Hp → Prop} {xs : List V}
theorem lc_fm (w : Walk J xs.length G Y) (f : V → Option V) {g : TG} {tt : TT} {te : TE} {vs : List Nat} {σ : St} {H1 : Hp} {D : Addr} {Qd : Hp → Prop} (hD : H1 D = none) (hn : xs.length ≤ sizeLine)
    (hy : ∀ i H x H', i < xs.length → Y i H x H' → H' = H ∧ xs[i]? = some x) (hG : ∀ H, Same H1 H → G H)
    (hs : ∀ (x : V) (H : Hp) (Q : V → Hp → Prop) (R : Hp → Prop), x ∈ xs → Same H1 H → (∀ H' y, Same H H' → f x = some y → Q y H') → (∀ H', Same H H' → f x = none → R H') →
      g x (wipe σ vs) H fun σ2 H2 => wipe σ2 vs = wipe σ vs ∧ tt σ2 H2 fun b H3 => if b = true then te σ2 H3 Q else R H3)
    (hd : ∀ H, H D = some (.lst (xs.filterMap f)) → Same H1 H → Qd H) :
    ∃ W : Nat → Nat → Hp → Prop, (∃ m, W 0 m (upd H1 D (.lst []))) ∧ ∀ i m H, W i m H →
      (J.stop i H ∧ Qd H) ∨ (J.go i H ∧ ∃ Nx : Hp → Prop, (∀ H', Nx H' → ∃ m', m' < m ∧ W (i + 1) m' H') ∧ ∀ x H', J.yld i H x H' → g x (wipe σ vs) H' fun σ2 H2 => wipe σ2 vs = wipe σ vs ∧ tt σ2 H2 fun b H3 =>
        if b = true then te σ2 H3 fun y H4 => ∃ acc, H4 D = some (.lst acc) ∧ acc.length < sizeLine ∧ Nx (upd H4 D (.lst (acc ++ [y]))) else Nx H3) := by
  refine lc_it w (fun i H => H D = some (.lst ((xs.take i).filterMap f)) ∧ Same H1 H) ⟨upd_same, same_new hD⟩ (fun i H _ p => hG H p.2) ?_ fun H p => hd H (by rw [p.1, List.take_length]) p.2
  intro i x H H' hi p y
  obtain ⟨rfl, hx⟩ := hy i H x H' hi y
  obtain ⟨p1, p2⟩ := p
  obtain ⟨hlt, ex⟩ := List.getElem?_eq_some_iff.mp hx
  have et : xs.take (i + 1) = xs.take i ++ [x] := by rw [List.take_succ, hx] <;> rfl
  refine hs x H' _ _ (List.mem_of_getElem? hx) p2 (fun H2 y s2 e => ⟨_, s2 _ _ p1, ?_, ?_, ?_⟩) fun H2 s2 e => ⟨?_, p2.trans s2⟩
  · have h1 : ((xs.take i).filterMap f).length ≤ (xs.take i).length := List.length_filterMap_le _ _
    rw [List.length_take] at h1
    omega
  · rw [upd_same, et, List.filterMap_append, List.filterMap_cons, e] <;> rfl
  · exact same_upd (p2.trans s2) hD
  · rw [s2 _ _ p1, et, List.filterMap_append, List.filterMap_cons, e, List.filterMap_nil, List.append_nil]
theorem signs_at {z : Str} : ∀ (i : Nat) (H : Hp) (x : V) (H' : Hp), i < (z.cps.toList.map fun c => V.str ⟨#[c]⟩).length → (H' = H ∧ ∃ c, z.cps[i]? = some c ∧ x = .str ⟨#[c]⟩) →
    H' = H ∧ (z.cps.toList.map fun c => V.str ⟨#[c]⟩)[i]? = some x := by
  rintro i H x H' _ ⟨rfl, c, h, rfl⟩
  refine ⟨rfl, ?_⟩
  rw [List.getElem?_map]
  simp [h]
theorem walk_signs {z : Str} : Walk (Its z) (z.cps.toList.map fun c => V.str ⟨#[c]⟩).length (fun _ => True) (fun i H v H' => H' = H ∧ ∃ c, z.cps[i]? = some c ∧ v = .str ⟨#[c]⟩) := by
  have h := walk_str (z := z)
  have e : (z.cps.toList.map fun c => V.str ⟨#[c]⟩).length = z.cps.size := by simp
  rw [e]
  exact h
theorem at_YAt {xs : List V} : ∀ (i : Nat) (H : Hp) (x : V) (H' : Hp), i < xs.length → YAt xs i H x H' → H' = H ∧ xs[i]? = some x := fun _ _ _ _ _ h => h
end
end GW
namespace GW
open PySem L2
/-! ### data -/
theorem dpAll_ints {K : PySem.W.Frag} {H : Hp} : ∀ ns : List Int, DpAll K H (ns.map V.int) (ns.map PyData.int)
  | [] => .nil
  | n :: ns => .cons (.int n) (dpAll_ints ns)
theorem lay_ints : ∀ ns : List Int, PyData.canLayAll0 (ns.map PyData.int) = true
  | [] => by simp [PyData.canLayAll0]
  | n :: ns => by simp [PyData.canLayAll0, PyData.canLay0, lay_ints ns]
theorem dep_ints : ∀ ns : List Int, PyData.depthAll (ns.map PyData.int) = 0
  | [] => by simp [PyData.depthAll]
  | n :: ns => by simp [PyData.depthAll, PyData.depth, dep_ints ns]
theorem shp_lst {ds : List PyData} (h1 : PyData.canLayAll0 ds = true) (h2 : PyData.depthAll ds ≤ 63) : SeqAt.shaped (.list ds) = true := by
  unfold SeqAt.shaped
  simp [PyData.canLay0, PyData.depth, h1]
  omega
theorem shp_tup {ds : List PyData} (h1 : PyData.canLayAll0 ds = true) (h2 : PyData.depthAll ds ≤ 63) : SeqAt.shaped (.tuple ds) = true := by
  unfold SeqAt.shaped
  simp [PyData.canLay0, PyData.depth, h1]
  omega
theorem shp_ints (ns : List Int) : SeqAt.shaped (.list (ns.map PyData.int)) = true := shp_lst (lay_ints ns) (by rw [dep_ints]; omega)
theorem shp_nil : SeqAt.shaped (.list []) = true := shp_ints []
theorem eqv_nil (ds : List PyData) : PyData.eqv (.list ds) (.list []) = ds.isEmpty := by
  cases ds <;> simp [PyData.eqv, PyData.eqvAll]
end GW
namespace GW
open PySem L2
/-! ### where ways meet -/
theorem asgG {te : TE} {g : TG} {rest : TS} {D : Ends} {σ : St} {H : Hp} (R : V → Hp → Prop) (h : ∀ Q' : VK, (∀ v H', R v H' → Q' v H') → te σ H Q') (h2 : ∀ v H', R v H' → g v σ H' (rest D)) : tSeq (tAsg te g) rest D σ H := h _ h2
theorem stG {t rest : TS} {D : Ends} {σ : St} {H : Hp} (R : St → Hp → Prop) (h : ∀ k : St → Hp → Prop, (∀ σ' H', R σ' H' → k σ' H') → t { D with nx := k } σ H) (h2 : ∀ σ' H', R σ' H' → rest D σ' H') : tSeq t rest D σ H := h _ h2
end GW
namespace GW
open PySem L2
theorem mVar_of {i : Nat} {σ : St} {H : Hp} {Q : VK} {v : V} (h : σ[i]? = some (some v)) (q : Q v H) : mVar i σ H Q := by
  unfold mVar
  rw [h]
  exact q
end GW

/-! errors that are caught and kept -/
namespace GW
section
open PySem PySem.Spec PyProof.Rows L2
/-- a caught error at a: its class, its dict -/
def ExH (cls : Value) (d : Option Addr) (a : Addr) : HO := .ext fun h => ∃ (o : Obj) (vs : Array Value), h.get? a = some o ∧ Zc cls d o ∧ o.data = .fields vs
theorem exH_ok {P : Program} {w : World} {H : Hp} {h : Heap} {a : Addr} {o : Obj} {vs : Array Value} {cls : Value} {d : Option Addr} (e : h.get? a = some o) (z : Zc cls d o) (f : o.data = .fields vs) : ObjOk P w H h a (ExH cls d a) :=
  ⟨⟨o, vs, e, z, f⟩, ⟨o, e⟩, fun _ _ ⟨o', ws, e', z', f'⟩ k => ⟨o', ws, k _ e', z', f'⟩⟩
theorem exH_at {X : Cx} {pins : List (Addr × Obj)} {σ : L2.St} {H : Hp} {s : Shared} {a : Addr} {cls : Value} {d : Option Addr} (I : Inv X pins σ H s) (e : H a = some (ExH cls d a)) : ∃ (o : Obj) (vs : Array Value), s.heap.get? a = some o ∧ Zc cls d o ∧ o.data = .fields vs :=
  (I.hok a _ e).1
section
variable {X : Cx} {pins : List (Addr × Obj)} {σ : L2.St} {H : Hp} {s : Shared}
theorem hold_ex {a : Addr} {o : Obj} {vs : Array Value} {cls : Value} {d : Option Addr} (I : Inv X pins σ H s) (e : s.heap.get? a = some o) (z : Zc cls d o) (f : o.data = .fields vs) (na : H a = none) (n0 : X.s_0.heap.get? a = none)
    (nL : a ≠ X.env.locals) (pn : ∀ p ∈ X.pn ++ pins, p.1 ≠ a) : Inv X pins σ (upd H a (ExH cls d a)) s where
  ok := I.ok
  os := I.os
  bare := I.bare
  base := { keep := I.base.keep, slot := I.base.slot, there := I.base.there
            free := fun b u q n x => (upd_ne fun y => by rw [y, n0] at q; cases q).trans (I.base.free b u q n x)
            tups := fun b xs q => (upd_ne (ne_of_none (I.base.tups b xs q) na)).trans (I.base.tups b xs q)
            frzs := fun b u w q => (upd_ne (ne_of_none (I.base.frzs b u w q) na)).trans (I.base.frzs b u w q)
            tbls := fun b ps q => by
              obtain ⟨m, r⟩ := I.base.tbls b ps q
              exact ⟨m, (upd_ne (ne_of_none r na)).trans r⟩ }
  loc := I.loc
  cell := I.cell
  free := (upd_ne (Ne.symm nL)).trans I.free
  freeC := fun x c q => (upd_ne fun y => by
    obtain ⟨v, u, r, t⟩ := I.cell x c q
    rw [y, e] at r
    cases r
    rw [f] at t
    cases t).trans (I.freeC x c q)
  pin := fun p hp => by
    obtain ⟨h1, h2, h3⟩ := I.pin p hp
    exact ⟨h1, (upd_ne (pn p hp)).trans h2, h3⟩
  hok := fun b u q => by
    by_cases y : b = a
    · subst y
      rw [upd_same] at q
      cases q
      exact exH_ok e z f
    · rw [upd_ne y] at q
      exact (I.hok b u q).stay (fun _ _ _ r => r) (fun c r => (upd_ne (ne_of_none r na)).trans r) fun c xs r => (upd_ne (ne_of_none r na)).trans r
  len := I.len
/-- what the clause 'except x as n: ..' wishes, the error kept behind it -/
def wKept (K : PySem.W.Frag) (c : Value) (i : Nat) (ts : Addr → Value → Option Addr → TS) (Wout : WX) (D : Ends) : WX := fun cls d τ G =>
  ∃ b, PySem.W.exmOne K cls c = some b ∧ (b = false → Wout cls d τ G) ∧
    (b = true → ∀ a, G a = none → ts a cls d { nx := fun τ' G' => D.nx (τ'.set i none) (upd G' a (ExH cls d a)), rt := fun _ _ => False, bk := fun _ _ => False, ct := fun _ _ => False } (τ.set i (some (.ref a))) G)
theorem ps_try_kept {x n : Str} {c : Value} {i : Nat} {body suite : List Stmt} {b₀ : Stmt} {np pos pos' : Pos} {tb : WX → TS} {ts : Addr → Value → Option Addr → TS} {Wout : WX} (hst : X.stack = X.env :: X.outer) (hfr : X.env.frame = some X.env.locals) (hex : X.ex = [])
    (nd : X.N.Nodup) (hi : X.N[i]? = some n) (hk : X.env.kindOf n = some .local) (hc : Names X x c) (tk : Takes X Wout)
    (hb : ∀ (W : WX) (pn : List (Addr × Obj)) (xe : Value → Shared → Prop), Takes (X.tr pn xe) W → PassesOwn (model X.prog X.w) X.A X.env xe → PSs (X.tr pn xe) body (tb W))
    (hsu : ∀ (a : Addr) (oe : Obj) (cls : Value) (d : Option Addr) (pn : List (Addr × Obj)), Zc cls d oe → (∃ vs, oe.data = .fields vs) → PSs (X.suite a ((a, oe) :: pn)) (b₀ :: suite) (ts a cls d)) :
    PS X (.Try body [.ExceptHandler (some (.Name x np)) (some n) (b₀ :: suite) pos'] [] [] pos) (fun D τ G => tb (wKept X.K c i ts Wout D) D τ G) := by
  refine ⟨fun pins s τ G D I told => ?_⟩
  have frm : X.A.frames = some (X.env :: X.outer) := I.ok.frames.trans (congrArg some hst)
  refine wpAny_Try_except (wpAny_mono ((hb (wKept X.K c i ts Wout D) (X.pn ++ pins) _ (fun u s' air => ?_) PassesOwn.looking).run [] s τ G D (I.toTry _) told) (fun fl s1 out => ?_) fun _ _ z => z)
  rotate_left
  · cases fl with
    | next =>
      obtain ⟨τ', G', J, q⟩ := out
      exact wpAny_execs_nil ⟨τ', G', J.ofTry I.ok, q⟩
    | ret v =>
      obtain ⟨y, τ', G', J, r, q⟩ := out
      exact ⟨y, τ', G', J.ofTry I.ok, r, q⟩
    | brk =>
      obtain ⟨τ', G', J, q⟩ := out
      exact ⟨τ', G', J.ofTry I.ok, q⟩
    | cont =>
      obtain ⟨τ', G', J, q⟩ := out
      exact ⟨τ', G', J.ofTry I.ok, q⟩
  obtain ⟨a, B, sI, qs, τ', G', cls, d, rfl, J0, nb, ups, sky, na, os, ag, b, known, no, yes⟩ := air
  have J : Inv X pins τ' G' sI := J0.ofTry I.ok
  rw [hst] at sky
  have noB : B.get? a = none := by
    rcases sky with k | k | k
    · exact k.2.1
    · exact k.2.1
    · exact k.2.1
  show wpAny (model X.prog X.w) X.A (noteFrame (.ref a) X.env) _ _ _
  refine Sky.land Zc.steady frm hfr sky fun h3 fly3 up3 => ?_
  have J3 : Inv X pins τ' G' { s' with heap := h3 } := J.landed nb fly3.1 (ups.trans up3) os ag
  obtain ⟨o3, w3, at3, z3, f3⟩ := fly3.there
  have away : a ∉ frs (X.env :: X.outer) := fun hm => by
    obtain ⟨_, o', e', hnf⟩ := fly3.2.2.1.mem hm
    rw [at3] at e'
    cases e'
    exact hnf _ f3
  have nL : a ≠ X.env.locals := fun y => away (List.mem_filterMap.mpr ⟨X.env, List.mem_cons_self, by rw [hfr, y]⟩)
  have nF : a ∉ X.fs := fun hm => by
    obtain ⟨e, he, q⟩ := List.mem_filterMap.mp hm
    exact away (List.mem_filterMap.mpr ⟨e, List.mem_cons_of_mem _ he, q⟩)
  have nI : sI.heap.get? a = none := by
    cases q : sI.heap.get? a with
    | none => rfl
    | some o =>
      have r := nb a o q (by rw [hst]; exact away)
      rw [noB] at r
      cases r
  have n0 : X.s_0.heap.get? a = none := by
    cases q : X.s_0.heap.get? a with
    | none => rfl
    | some o =>
      obtain ⟨o', r⟩ := J.base.there a o q (by rw [hex]; exact fun y => nomatch y)
      rw [nI] at r
      cases r
  have apart : ∀ p ∈ X.pn ++ pins, p.1 ≠ a := fun p hp y => by
    have r := (J.pin p hp).1
    rw [y, nI] at r
    cases r
  have S3 := J3.suite at3 f3 na nL nF
  refine wpAny_handleBy_cons (codeAny_handlers_test ?_) (by intro q; cases q)
  have look : PySem.W.Looks (model X.prog X.w) h3 (typeOf (.ref a)) cls := fun A Q E s k q => wpAny_typeOf_ref (k _ _ at3) (by rw [z3.1]; exact q)
  have ask : ∀ {Q : Value → Shared → Prop} {E : Value → Shared → Prop}, Q c { s' with heap := h3 } → wpAny (model X.prog X.w) (X.A.mark (some (.ref a))) (eval (.Name x np) X.env) Q E { s' with heap := h3 } := fun {Q E} q => by
    obtain ⟨hg, hdb, hm | ⟨hm, hv, hnn⟩⟩ := hc
    · exact ld_glob (X := X.suite a ((a, o3) :: (X.pn ++ pins))) S3 hg hm q hdb
    · exact ld_blt (X := X.suite a ((a, o3) :: (X.pn ++ pins))) S3 hg hm hv q hnn hdb
  refine ask ((PySem.W.exm_one (M := model X.prog X.w) J3.kIn look known).here ?_)
  cases b with
  | false =>
    show wpAny _ X.A (handleBy (.ref a) X.env []) _ _ _
    refine wpAny_handleBy_nil ?_
    obtain ⟨_, _, _, oe, vs, T, oT, us, he, _, hd, h1, _⟩ := id fly3
    unfold PySem.passOn
    refine wpAny_bind (wpAny_field he hd h1 ?_)
    rw [if_neg (show ¬ ((Value.ref T == Value.none) = true) from by simp)]
    have on : wpAny (model X.prog X.w) X.A (setFlight (.ref a) X.env.frame) (fun _ s4 => wpAny (model X.prog X.w) X.A (throw (.ref a) : Sem Flow) (SP X pins D) X.xe s4) X.xe { s' with heap := h3 } := by
      rw [hfr]
      refine HandSPX.setFlight_upZ fly3 fun h4 held up4 => wpAny_throw (tk _ _ ⟨a, B, sI, pins, τ', G', cls, d, rfl, J, nb, (ups.trans up3).trans up4, .inr (.inr ?_), na, os, ag, no rfl⟩)
      rw [hst]
      exact held
    first
      | exact wpAny_bind (wpAny_pure (wpAny_bind on))
      | exact wpAny_bind on
  | true =>
    refine codeAny_handlers_suite_as (HandSPX.lands_againZ fly3 fun h4 fly4 up4 => ?_)
    have J4 : Inv X pins τ' G' { s' with heap := h4 } := J.landed nb fly4.1 ((ups.trans up3).trans up4) os ag
    obtain ⟨o4, w4, at4, z4, f4⟩ := fly4.there
    have S4 := J4.suite at4 f4 na nL nF
    refine store_ok (X := X.suite a ((a, o4) :: (X.pn ++ pins))) (v := .ref a) S4 nd hi (.inl hk) rfl (fun s5 S5 => ?_) (.inr hk)
    refine wpAny_mono ((hsu a o4 cls d (X.pn ++ pins) z4 ⟨_, f4⟩).run [] s5 _ G' _ S5 (yes rfl a na)) (fun fl s6 out => ?_) fun _ _ z => False.elim z
    cases fl with
    | next =>
      obtain ⟨τ6, G6, S6, q6⟩ := out
      refine gone_ok (X := X.suite a ((a, o4) :: (X.pn ++ pins))) S6 nd hi hk fun s7 S7 => ?_
      have p7 := S7.pin (a, o4) (List.mem_append_left _ List.mem_cons_self)
      exact ⟨_, _, hold_ex (S7.unsuite I.ok) p7.1 z4 f4 p7.2.1 n0 nL apart, q6⟩
    | ret v =>
      obtain ⟨_, _, _, _, _, q6⟩ := out
      exact q6.elim
    | brk =>
      obtain ⟨_, _, _, q6⟩ := out
      exact q6.elim
    | cont =>
      obtain ⟨_, _, _, q6⟩ := out
      exact q6.elim
end
/-! ### isinstance of a caught error, its fields -/
section
open PySem.W PySem.Calls
variable {prog : Program} {w : World} {A : Around} {E : Value → Shared → Prop} {K : Frag}
theorem found_class {C : Addr} {od : Option Obj} (c : ExcC K C) : findObj K C od "__class__" = some (.bind (.builtin "getset_descriptor.__get__") (.builtin "object.__class__")) := by
  obtain ⟨cd, hc, _⟩ := any_some c.hd
  unfold findObj
  rw [hc, Option.bind_some, c.ha]
  simp [c.hn, c.ht]
/-- e.__class__ of an error of an own class, with or without a dict -/
theorem class_of_error {a C : Addr} {o : Obj} {od : Option Obj} {s : Shared} {Q : Option Value → Shared → Prop} (c : ExcC K C) (X : K.In s.heap) (J : InstAt s.heap a o C od) (q : Q (some (.ref C)) { s with toks := s.toks + 1 }) :
    wpAny (model prog w) A (getAttr? (.ref a) "__class__") Q E s := by
  obtain ⟨hp, gs, dr, tk, os⟩ := s
  have ty := J.type (M := model prog w)
  have ga := looks_findIn (M := model prog w) X c.hg
  have gg := looks_findIn (M := model prog w) X c.hk
  have fd := looks_find (M := model prog w) X J (found_class (od := od) c)
  have isB : Looks (model prog w) hp (isInstance (.ref a) (.type "BaseException")) true := ty.andThen (looks_subIn X c.hs)
  have e0 : (Value.builtin "BaseException.__getattribute__" == Value.builtin "object.__getattribute__") = false := by decide +kernel
  have e1 : (onTheHeap (Value.ref C) && Value.builtin "BaseException.__getattribute__" == Value.builtin "object.__getattribute__") = false := (congrArg (onTheHeap (Value.ref C) && ·) e0).trans (Bool.and_false _)
  unfold getAttr? getAttrBy? getAttrBy
  refine wpAny_bind (wpAny_mkText (wpAny_bind (wpAny_attempt (wpAny_holding (wpAny_bind (ty.at (wpAny_bind (ga.at ?_))))))))
  show wpAny _ _ (ite ((onTheHeap (Value.ref C) && Value.builtin "BaseException.__getattribute__" == Value.builtin "object.__getattribute__") = true) _ _) _ _ _
  rw [e1]
  refine (?_ : wpAny _ _ (getAttrByItsOwn _ _ _ _ _ _) _ _ _)
  unfold getAttrByItsOwn hookBefore
  refine wpAny_bind ?_
  rw [if_pos (show onTheHeap (Value.ref C) = true by rfl)]
  refine gg.at (wpAny_bind (wpAny_attempt (wpAny_holding ?_)))
  unfold callGetattribute
  rw [show (false && onTheHeap (Value.builtin "BaseException.__getattribute__")) = false from rfl, if_neg Bool.false_ne_true]
  unfold boundAndCalled
  rw [PySem.F.excAttr_ValueError.ga.bind (.ref a)]
  refine wpAny_bind (wpAny_pure (?_ : wpAny _ _ (call (.builtin "BaseException.__getattribute__") [.ref a, .str "__class__" tk]) _ _ _))
  refine wpAny_call (codeAny_call_builtin PySem.F.excAttr_ValueError.ga.plain PySem.F.entry_bexc_ga (@check_slot (model prog w) _ _ ⟨hp, gs, dr, tk + 1, os⟩ "BaseException.__getattribute__" "BaseException" "__getattribute__" (.ref a) [.str "__class__" tk] [] _
    (by decide +kernel) (by decide +kernel) isB (PySem.F.args_bexc_ga (.ref a) (.str "__class__" tk)) ?_))
  unfold Builtin.«object.__getattribute__»
  refine wpAny_bind (wpAny_of_eq (a := ((Value.ref a : Value), [Value.str "__class__" tk])) (by first | rfl | (simp only [slotArgs]; rfl)) (wpAny_bind (wpAny_pure (wpAny_bind (ty.at (wpAny_bind (fd.at ?_)))))))
  refine wpAny_bind (?_ : wpAny _ _ (holding [Value.builtin "object.__class__"] (call (.builtin "getset_descriptor.__get__") [.builtin "object.__class__", .ref a, .ref C])) _ _ _)
  refine wpAny_holding (wpAny_call (class_get (s := ⟨hp, gs, dr, tk + 1, os⟩) (ox := o) (od := od) X J c.hm (wpAny_pure (?_ : wpAny _ _ (handedOut (.ref C)) _ _ _))))
  rw [handedOut_of (v := .ref C) rfl]
  first
    | exact wpAny_pure (wpAny_pure q)
    | exact wpAny_pure q
    | exact wpAny_pure (wpAny_bind (wpAny_pure (wpAny_pure q)))
theorem kit_error {a C : Addr} {o : Obj} {od : Option Obj} (c : ExcC K C) : KitX K (.ref a) (.ref C) (fun h => InstAt h a o C od) := by
  have at_ : ∃ dd sl cd, K.lookup C = some ⟨.type "type", dd, .cls cd, sl⟩ ∨ ∃ k, K.lookup C = some ⟨k, dd, .cls cd, sl⟩ := by
    obtain ⟨cd, hc, _⟩ := any_some c.hd
    unfold clsIn at hc
    split at hc
    · rename_i k dd cd' sl e
      exact ⟨dd, sl, cd', .inr ⟨k, e⟩⟩
    · cases hc
  obtain ⟨dd, sl, cd, at_⟩ := at_
  have at2 : ∃ k, K.lookup C = some ⟨k, dd, .cls cd, sl⟩ := at_.elim (fun e => ⟨_, e⟩) id
  obtain ⟨k, e⟩ := at2
  exact
    { ty := fun _ _ _ J => J.type
      it := fun _ _ X _ A Q E s k q => by
        unfold isType loadHead
        exact wpAny_bind (wpAny_loadPart (k _ _ (X _ _ e)) (wpAny_pure q))
      ne := fun h tp d its n sl X htp => by
        cases q : (Value.ref C == Value.ref tp) with
        | false => rfl
        | true =>
          have z : C = tp := Value.ref.inj (beq_iff_eq.mp q)
          subst z
          have y := (X _ _ e).symm.trans htp
          cases y
      ca := fun X J q => class_of_error c X J q }
end
section
variable {X : Cx}
/-- isinstance(e, C) of a caught error e -/
def rIsX (K : PySem.W.Frag) : List V → Hp → VK → Prop := fun vs H Q => ∃ (a C D : Addr) (d : Option Addr) (b : Bool), vs = [.ref a, .ref D] ∧ H a = some (ExH (.ref C) d a) ∧ (d.isSome = true → ∃ dd fs, d = some dd ∧ H dd = some (.xd fs)) ∧ ExcC K C ∧ PySem.W.kitOne K (.ref C) (.ref D) = some b ∧ Q (.bl b) H
theorem inst_ex {pins : List (Addr × Obj)} {σ : L2.St} {H : Hp} {s : Shared} {a C : Addr} {d : Option Addr} (I : Inv X pins σ H s) (e : H a = some (ExH (.ref C) d a)) (hd : d.isSome = true → ∃ dd fs, d = some dd ∧ H dd = some (.xd fs)) :
    ∃ o od, PySem.W.InstAt s.heap a o C od ∧ (∀ dd fs, d = some dd → H dd = some (.xd fs) → ∃ ob mA, od = some ob ∧ s.heap.Ns1 dd mA ∧ s.heap.get? dd = some ob ∧ (∀ f, RelO (fs.lookup f) (mA f)) ∧ ∀ f, PySem.W.lookIn f ob = some (mA f)) := by
  obtain ⟨o, vs, h1, h2, h3⟩ := exH_at I e
  have hn : PySem.W.notCls o = true := by unfold PySem.W.notCls; rw [h3] <;> rfl
  cases d with
  | none => exact ⟨o, none, ⟨h1, h2.1, hn, by rw [h2.2]; exact True.intro⟩, fun dd fs z => nomatch z⟩
  | some d =>
    obtain ⟨dd, fs, ed, e2⟩ := hd rfl
    cases ed
    obtain ⟨mA, hns, hr⟩ : ObjOk X.prog X.w H s.heap d (.xd fs) := I.hok d _ e2
    obtain ⟨od, ho, hl⟩ := lookIn_ns hns
    refine ⟨o, some od, ⟨h1, h2.1, hn, by rw [h2.2]; exact ho⟩, fun dd fs' z y => ?_⟩
    cases z
    rw [e2] at y
    cases y
    exact ⟨od, mA, rfl, hns, ho, hr, fun f => hl f⟩
theorem cu_isX : CallR X (.builtin "isinstance") (rIsX X.K) := by
  intro pins s σ H xs us Q I r h
  obtain ⟨a, C, D, d, b, rfl, ha, hd, c, k, q⟩ := h
  obtain ⟨u1, u2, rfl, r1, r2⟩ := vals2 r
  cases (show u1 = Value.ref a from r1)
  cases (show u2 = Value.ref D from r2)
  obtain ⟨o, od, J, _⟩ := inst_ex I ha hd
  exact PySem.W.kia_one (kit_error c) I.kIn J k (fun z => nomatch z) fun tk => ⟨.bl b, H, I.tok tk, rfl, q⟩
/-- e.f of a caught error e -/
def mXf (K : PySem.W.Frag) (f : Str) (te : TE) : TE := fun σ H Q => te σ H fun x H1 => ∃ (a C d : Addr) (fs : List (Str × V)) (v : V), x = .ref a ∧ H1 a = some (ExH (.ref C) (some d) a) ∧ H1 d = some (.xd fs) ∧ XfC K C ∧ PySem.W.findIn K (.ref C) f = some none ∧ fs.lookup f = some v ∧ Q v H1
theorem ue_xf {e : Expr} {te : TE} {pos : Pos} {f : Str} (he : PE X e te) (hb : attributeBase e f X.env (eval e X.env) = eval e X.env := by rfl) : PE X (.Attribute e f pos) (mXf X.K f te) := by
  refine ⟨fun pins s σ H Q I h => attr_of hb (thn (he.run pins s σ H _ I h) fun u s1 hh => ?_)⟩
  obtain ⟨x, H1, I1, rx, a, C, d, fs, v, rfl, ea, ed, T, no, l, q⟩ := hh
  obtain rfl : u = Value.ref a := rx
  obtain ⟨o, od, J, more⟩ := inst_ex I1 ea fun _ => ⟨d, fs, rfl, ed⟩
  obtain ⟨ob, mA, rfl, _, _, hr, hl⟩ := more d fs rfl ed
  obtain ⟨u, hu, ru⟩ := RelO.some_of (v := v) (o := mA f) (by rw [← l]; exact hr f)
  exact HandSPX.exc_get I1.kIn J T.ga T.gg T.exC (PySem.W.findObj_own T.hdC no rfl (by rw [hl, hu])) (handed_of ru) ⟨v, H1, I1.tok _, ru, q⟩
end
end
end GW

/-! own error classes raised; lambdas handed to a def that hears -/
namespace GW
section
open PySem PySem.Spec PyProof.Rows L2
/-! ### an own error class -/
structure ErrC (K : PySem.W.Frag) (C : Addr) : Prop where
  ox : OexC K C
  xf : XfC K C
  xc : ExcC K C
  iC : PySem.W.findIn K (.ref C) "__init__" = some (some (.ref (He.ma K C "__init__")))
  tI : PySem.W.typeIn K (.ref (He.ma K C "__init__")) = some (.type "function")
def errB1 (K : PySem.W.Frag) (C : Addr) : Bool := match K.lookup C with
  | some ⟨.type t, _, .cls cd, sl⟩ => (match cd.mro, sl.toList with
    | .ref D :: bm, [_, _, _, _, some (.builtin n), _] => decide (t = "type") && (D == C && (n == "ValueError.__new__" && (!cd.hasDel && (cd.hasDict && PySem.HandSPX.refsVE bm))))
    | _, _ => false)
  | _ => false
def errB2 (K : PySem.W.Frag) (C : Addr) : Bool :=
  He.eqO (PySem.W.findIn K (.ref C) "__setattr__") (some (some (.builtin "object.__setattr__"))) && (decide (PySem.W.subIn K (.ref C) (.type "BaseException") = some true) && (decide (PySem.W.typeIn K (.ref C) = some (.type "type")) && (PySem.W.keepIn K (.ref C) &&
  (He.eqO (PySem.W.findIn K (.ref C) "__getattribute__") (some (some (.builtin "BaseException.__getattribute__"))) && (He.eqO (PySem.W.findIn K (.ref C) "__getattr__") (some none) && (PySem.W.hasDictIn K C &&
  (He.eqO (PySem.W.findIn K (.ref C) "__class__") (some (some (.builtin "object.__class__"))) && (He.eqO (PySem.W.specialIn K (.builtin "object.__class__") "__get__") (some (some (.builtin "getset_descriptor.__get__"))) &&
  (decide (PySem.W.takesIn K (.builtin "object.__class__") = some true) && (decide (PySem.W.mroIn K C (.type "object") = some true) &&
  (He.eqO (PySem.W.findIn K (.ref C) "__init__") (some (some (.ref (He.ma K C "__init__")))) && decide (PySem.W.typeIn K (.ref (He.ma K C "__init__")) = some (.type "function")))))))))))))
def errB (K : PySem.W.Frag) (C : Addr) : Bool := errB1 K C && errB2 K C
theorem errB1_ok {K : PySem.W.Frag} {C : Addr} (h : errB1 K C = true) : ∃ nm q N bs bm sn sub ab col dd k0 k1 k2 k3 k5, K.lookup C = some (excClassObj nm q C N bs bm true sn sub ab col dd k0 k1 k2 k3 k5 "ValueError.__new__") ∧ PySem.HandSPX.refsVE bm = true := by
  unfold errB1 at h
  cases e : K.lookup C with
  | none => rw [e] at h; cases h
  | some o =>
    rw [e] at h
    obtain ⟨oc, od, dt, sl⟩ := o
    cases oc with
    | type t =>
      cases dt with
      | cls cd =>
        obtain ⟨nm, bs, mro, ns, qn, hd, sn, sub, ab, col, del⟩ := cd
        obtain ⟨sl⟩ := sl
        dsimp only at h
        match mro, sl, h with
        | .ref D :: bm, [k0, k1, k2, k3, some (.builtin n), k5], h =>
          obtain ⟨h1, h⟩ := He.ba h
          obtain ⟨h2, h⟩ := He.ba h
          obtain ⟨h3, h⟩ := He.ba h
          obtain ⟨h4, h⟩ := He.ba h
          obtain ⟨h5, h6⟩ := He.ba h
          have e1 : t = "type" := of_decide_eq_true h1
          have e2 : D = C := beq_iff_eq.mp h2
          have e3 : n = "ValueError.__new__" := beq_iff_eq.mp h3
          have e4 : del = false := by simpa using h4
          have e5 : hd = true := h5
          subst e1 e2 e3 e4 e5
          exact ⟨nm, qn, ns, bs, bm, sn, sub, ab, col, od, k0, k1, k2, k3, k5, rfl, h6⟩
      | _ => cases h
    | _ => cases dt <;> cases h
theorem errB_ok {K : PySem.W.Frag} {C : Addr} (h : errB K C = true) : ErrC K C := by
  obtain ⟨h0, h⟩ := He.ba h
  obtain ⟨a1, h⟩ := He.ba h
  obtain ⟨a2, h⟩ := He.ba h
  obtain ⟨a3, h⟩ := He.ba h
  obtain ⟨a4, h⟩ := He.ba h
  obtain ⟨a5, h⟩ := He.ba h
  obtain ⟨a6, h⟩ := He.ba h
  obtain ⟨a7, h⟩ := He.ba h
  obtain ⟨a8, h⟩ := He.ba h
  obtain ⟨a9, h⟩ := He.ba h
  obtain ⟨b1, h⟩ := He.ba h
  obtain ⟨b2, h⟩ := He.ba h
  obtain ⟨b3, b4⟩ := He.ba h
  have a2' := of_decide_eq_true a2
  exact ⟨⟨errB1_ok h0, He.eqO_ok a1, a2', of_decide_eq_true a3, a4⟩, ⟨He.eqO_ok a5, He.eqO_ok a6, a2', a7⟩, ⟨He.eqO_ok a5, He.eqO_ok a6, a2', a7, He.eqO_ok a8, He.eqO_ok a9, of_decide_eq_true b1, of_decide_eq_true b2⟩, He.eqO_ok b3, of_decide_eq_true b4⟩
/-- what its __init__ does: the fields fs are told, in that order -/
def spErr (K : PySem.W.Frag) (fs : List Str) : Sp := fun vs H Q _ => ∃ (a C : Addr) (ws : List V), vs = .ref a :: ws ∧ ws.length = fs.length ∧ OexC K C ∧ (∀ f ∈ fs, PySem.W.findIn K (.ref C) f = some none) ∧ H a = some (exo a C none) ∧
  ∀ d, H d = none → d ≠ a → Q .non (upd (upd H d (exd d (fs.zip ws).reverse)) a (exo a C (some d)))
theorem ln_err {K : PySem.W.Frag} {p : Str} {fs ps : List Str} (hl : ps.length = fs.length) : ∀ vs H Q E, spErr K fs vs H Q E → vs.length = (p :: ps).length := fun vs H Q E ⟨a, C, ws, e, l, _⟩ => by
  rw [e, List.length_cons, List.length_cons, l, hl]
theorem pu_err1 {K : PySem.W.Frag} {n f : Str} : ∀ (vs : List V) (H : Hp) (Q : VK) (E : XK), spErr K [f] vs H Q E → tOst K f (mVar 0) (mVar 1) { nx := fun _ H' => Q .non H', rt := Q } (L2.start ["self", n] vs) H := by
  rintro vs H Q E ⟨a, C, ws, rfl, l, c, no, e, q⟩
  match ws, l with
  | [v], _ => exact ⟨a, C, rfl, c, no f (List.mem_singleton.mpr rfl), .inl ⟨e, fun d h1 h2 => q d h1 h2⟩⟩
theorem pu_err2 {K : PySem.W.Frag} {n m f g : Str} : ∀ (vs : List V) (H : Hp) (Q : VK) (E : XK), spErr K [f, g] vs H Q E → tSeq (tOst K f (mVar 0) (mVar 1)) (tOst K g (mVar 0) (mVar 2)) { nx := fun _ H' => Q .non H', rt := Q } (L2.start ["self", n, m] vs) H := by
  rintro vs H Q E ⟨a, C, ws, rfl, l, c, no, e, q⟩
  match ws, l with
  | [v, u], _ =>
    refine ⟨a, C, rfl, c, no f (by simp), .inl ⟨e, fun d h1 h2 => ?_⟩⟩
    refine ⟨a, C, rfl, c, no g (by simp), .inr ⟨d, [(f, v)], upd_same, (upd_ne h2).trans upd_same, Nat.le_of_ble_eq_true rfl, ?_⟩⟩
    have q' := q d h1 h2
    have e' : upd (upd (upd H d (exd d [(f, v)])) a (exo a C (some d))) d (exd d [(g, u), (f, v)]) = upd (upd H d (exd d [(g, u), (f, v)])) a (exo a C (some d)) := by
      funext b
      unfold upd
      by_cases x : b = d
      · have y : ¬ b = a := fun z => h2 (x.symm.trans z)
        simp [x, h2]
      · simp [x]
    exact e'.symm ▸ q'
/-- the class x: its __init__ keeps spErr -/
structure CalE (P : Program) (w : World) (K : PySem.W.Frag) (mg : Str → Option Value) (base : Heap) (x : Str) (k : Nat) (ps fs : List Str) : Prop where
  c : ErrC K (He.ga K x)
  no : ∀ f ∈ fs, PySem.W.findIn K (.ref (He.ga K x)) f = some none
  at_ : mg x = some (.ref (He.ga K x))
  fn : ∃ fd, FnOk P w K mg base CX0 k (He.ma K (He.ga K x) "__init__") fd ps (spErr K fs) ∧ Binds K fd ps []
/-- raise x(e, ..) -/
def tRaise (K : PySem.W.Frag) (x : Str) (fs : List Str) (ta : TA) (W : WX) : TS := fun _ σ H => ta σ H fun vs H1 => vs.length = fs.length ∧ ∀ d, H1 d = none → W (.ref (He.ga K x)) (some d) σ (upd H1 d (.xd (fs.zip vs).reverse))
theorem made_at {H1 : Hp} {a d : Addr} {o o1 o2 u : HO} (na : H1 a = none) (h : d ≠ a) : upd (del (upd (upd (upd H1 a o) d o1) a o2) a) d u = upd H1 d u := by
  funext b
  unfold upd del
  by_cases x : b = d
  · simp only [if_pos x]
  · simp only [if_neg x]
    by_cases y : b = a
    · simp only [if_pos y]
      rw [y, na]
    · simp only [if_neg y]
/-- the same question, asked with a weaker answer -/
def upA (ta : TA) : TA := fun σ H Q => ∃ R : List V → Hp → Prop, ta σ H R ∧ ∀ vs H1, R vs H1 → Q vs H1
theorem ue_raise {X : Cx} {W : WX} {x : Str} {k : Nat} {ps fs : List Str} {e : Expr} {es : List Expr} {ta : TA} {p pos pos' : Pos} (F : CalE X.prog X.w X.K X.mg X.base x k ps fs) (hf : fs.length ≤ 1000) (hr : Room (k + 1) X.A) (hc : X.calm = true) (tk : Takes X W) (hg : Gl X x) (ha : PA X (e :: es) ta)
    (hdb : (x == ("__debug__" : Str)) = false := by decide) (he : starEach (e :: es) X.env = (false, eval e X.env) :: starEach es X.env := by rfl) (hpl : (backTo pos (starEach es X.env)).any (·.1) = false := by rfl) :
    PS X (.Raise (some (.Call (.Name x p) (e :: es) [] pos)) none pos') (tRaise X.K x fs ta W) := by
  obtain ⟨fd, F1, hb⟩ := F.fn
  have hu : PA X (e :: es) (upA ta) := ⟨fun q pins s σ H Q I ⟨R, h, im⟩ => wpAny_mono (ha.run q pins s σ H R I h) (fun us s' ⟨vs, H', J, r, z⟩ => ⟨vs, H', J, r, im vs H' z⟩) fun _ _ z => z⟩
  have r := ps_raise (pos := pos') hc tk (pmk_oex (p := p) (dvs := []) (ds := []) F.c.ox F.c.iC F.c.tI F1 hr hb .nil pass0 hg F.at_ hu hdb he hpl)
  refine ⟨fun pins s σ H D I h => r.run pins s σ H D I ⟨_, h, fun vs H1 ⟨l, q⟩ => ⟨by rw [l]; exact hf, fun a na => ?_⟩⟩⟩
  refine ⟨a, He.ga X.K x, vs, by rw [List.append_nil], l, F.c.ox, F.no, upd_same, fun d nd hd => ⟨rfl, d, (fs.zip vs).reverse, upd_same, (upd_ne hd).trans upd_same, ?_, ?_⟩⟩
  · rwa [upd_ne hd] at nd
  · rw [upd_ne hd] at nd
    rw [made_at na hd]
    exact q d nd
/-! ### a lambda handed to a def that hears -/
section
open LamX
variable {X : Cx} {pins : List (Addr × Obj)} {σ : L2.St} {H : Hp} {s : Shared}
/-- the def x at g, running, called from X at s -/
abbrev inX (X : Cx) (N : List Str) (x : Str) (sc : Scope) (g : Addr) (cd : Value) (s : Shared) (H : Hp) : Cx := (cxOf C8.CX0 X.prog X.w X.K X.mg X.base N x sc g cd X.A X.stack s H C8.E0).nox
/-- what the body asks: the slot i holds the lambda f, its code object stands; T: the lambda's body -/
def mAct (i : Nat) (f c' : Addr) (q : Str) (T : XK → Hp → VK → Prop) (W : WX) : TE := fun τ G Q => τ[i]? = some (some (.ref f)) ∧ G c' = some (CodeO c' q) ∧ ∃ E : XK, (∀ cls d G', E cls d G' → W cls d τ G') ∧ T E G Q
theorem ue_act {x a : Str} {N : List Str} {sc scope : Scope} {g f c' : Addr} {cd pm ctv : Value} {params : Arguments} {body : Expr} {k i : Nat} {pn : List (Addr × Obj)} {xe : Value → Shared → Prop} {W : WX} {t : XK → TE} {p1 p2 : Pos}
    (I : Inv X pins σ H s) (L : LamS X.env.scope scope) (at_ : s.heap.get? f = some (PySem.W.kla_obj "<lambda>" (X.env.qual ++ "<lambda>") params body scope (cloFrom X.env.cells scope.names []) pm c' ctv)) (hid : H f = none) (off : f ∉ frs X.stack)
    (bound : bindArgs (PySem.W.kla_fn "<lambda>" (X.env.qual ++ "<lambda>") params body scope (cloFrom X.env.cells scope.names []) pm (.ref c') ctv) ⟨[], []⟩ = pure [])
    (tk : Takes ((inX X N x sc g cd s H).tr pn xe) W) (room : Room (k + 1) (X.A.deeper (envOfC x sc s.heap.objs.size g cd)))
    (hbody : ∀ (A : Around) (outer : List Env) (s : Shared) (H : Hp) (E : XK), Room k (A.deeper (lamEnv X scope s.heap.objs.size f c')) → PE (lamCx X A outer s H E scope f c') body (t E))
    (hN : N[i]? = some a) (vis : Vis sc a) (hd : (a == ("__debug__" : Str)) = false) (hcd : (a == ("__classdict__" : Str)) = false) :
    PE ((inX X N x sc g cd s H).tr pn xe) (.Call (.Name a p1) [] [] p2) (mAct i f c' (X.env.qual ++ "<lambda>") (fun E G Q => t E σ G Q) W) := by
  constructor
  rintro qs z τ G Q J ⟨held, code, E, up, told⟩
  have name : PE ((inX X N x sc g cd s H).tr pn xe) (.Name a p1) _ := pe_var (i := i) hN vis hd hcd
  refine wpAny_Call_Name_kw (thn (name.run qs z τ G (fun v G1 => v = .ref f ∧ G1 = G) J ⟨_, held, rfl, rfl⟩) fun u z1 ⟨v, G1, J1, ru, ev, eG⟩ => ?_)
  rw [ev] at ru
  rw [eG] at J1
  obtain rfl : u = Value.ref f := ru
  have still := J1.base.keep f _ at_ hid off (fun y => nomatch (show f ∈ ([] : List Addr) from y))
  refine PySem.W.callWith_F0 ⟨_, _, _, _, still⟩ (wpAny_call (codeAny_mono (R := CR (L2.CX X.prog X.w) (envOfC x sc s.heap.objs.size g cd :: X.stack) X.prog X.w G z1 Q E) ?_ fun r z2 out => ?_))
  · refine (?_ : codeAny _ _ (.call (.ref f) ⟨[], []⟩) _ _)
    obtain ⟨⟨oc, ws, tk', hoc, hdc, hvc⟩, _⟩ := J1.hok c' _ code
    refine PySem.W.kla_callFunE room.depth still rfl L.co L.gen rfl ⟨c', oc, ws, tk', rfl, hoc, hdc, hvc⟩ ?_
    rw [bound]
    refine wpAny_pure (wpAny_newFunctionEnv (fun y hy => (L.own y hy).2) (fun y hy => absurd hy (by simp)) (fun h2 hns hsb => ⟨J1.nolimit.fresh _ hsb, ?_⟩) L.kind)
    have kp : ∀ b o, z1.heap.get? b = some o → h2.get? b = some o := fun b o e => hsb.extBut b o (Nat.ne_of_lt (Heap.lt_size e)) (Heap.get?_push_of_some _ e)
    have un : Un (frs X.stack) [] H G s.heap z1.heap := J1.base
    have start := lam_start2 (tk := z1.toks + ([] : List (Str × Value)).length) (A := X.A.deeper (envOfC x sc s.heap.objs.size g cd)) (outer := envOfC x sc s.heap.objs.size g cd :: X.stack) (E := E) (f := f) (c' := c') I L J1.env0 room.hd un hns kp
    refine PySem.W.kla_codeExpr (wpAny_mono ((hbody _ _ z1 G E (room.deeper _)).run [] _ σ G Q start told) (fun v z2 ⟨y, G2, K2, ry, q⟩ => ⟨y, G2, K2.os, K2.bare, K2.base, K2.hok, ry, q⟩) fun _ _ e => e)
  · cases r with
    | error e => exact tk e z2 (XE.of_call J1 (fun cls d G' y => up cls d G' y) out)
    | ok fl =>
      cases fl with
      | ret u => exact J1.after out
      | next => exact False.elim out
      | brk => exact False.elim out
      | cont => exact False.elim out
/-- the def that hears: what it makes of any lambda's reading -/
abbrev Hear : Type := (XK → Hp → VK → Prop) → Hp → VK → Prop
structure CalH (P : Program) (w : World) (K : PySem.W.Frag) (mg : Str → Option Value) (base : Heap) (x a : Str) (k : Nat) (ok : Around → Prop) (TT : Hear) : Prop where
  ex : ∃ (pg : Arguments) (bg : List Stmt) (sc : Scope) (dV kV doc pm cdv ct oc : Value) (an od : Option Addr) (osl : Array (Option Value)) (N : List Str),
    K.lookup (He.ga K x) = some ⟨oc, od, .func (PySem.W.fnOf x x pg bg sc dV kV doc pm an cdv ct), osl⟩ ∧ PySem.W.codeIn K cdv x = true ∧ Binds K (PySem.W.fnOf x x pg bg sc dV kV doc pm an cdv ct) [a] [] ∧ FnScope N [a] sc ∧ N[0]? = some a ∧ Vis sc a ∧
    ∀ (X : Cx), X.prog = P → X.w = w → X.K = K → X.mg = mg → X.base = base → ok X.A → Room (k + 1) X.A → ∀ (s : Shared) (H : Hp) (f c' : Addr) (q : Str) (T : XK → Hp → VK → Prop) (Q : VK),
      (∀ (W : WX) (pn : List (Addr × Obj)) (xe : Value → Shared → Prop) (p1 p2 : Pos), Takes ((inX X N x sc (He.ga K x) cdv s H).tr pn xe) W → PE ((inX X N x sc (He.ga K x) cdv s H).tr pn xe) (.Call (.Name a p1) [] [] p2) (mAct 0 f c' q T W)) →
      H c' = some (CodeO c' q) → TT T H Q → ∃ t, PSs (inX X N x sc (He.ga K x) cdv s H) bg t ∧ t { nx := fun _ H' => Q .non H', rt := Q } (L2.start N [.ref f]) H
  at_ : mg x = some (.ref (He.ga K x))
  kp : PySem.W.keepIn K (.ref (He.ga K x)) = true
/-- x(lambda: e) -/
def mLam (Tb : List (Addr × Str)) (TT : Hear) (t : XK → TE) : TE := fun σ H Q => Tabs Tb H ∧ ∀ H1, ExtN H H1 → Tabs Tb H1 → TT (fun E G Q' => t E σ G Q') H1 Q
theorem ue_lam {Tb : List (Addr × Str)} {TT : Hear} {x a : Str} {c P : Addr} {j k : Nat} {ok : Around → Prop} {params : Arguments} {body : Expr} {scope : Scope} {t : XK → TE} {p lpos pos : Pos} (F : CalH X.prog X.w X.K X.mg X.base x a j ok TT) (hok : ok X.A) (hg : Gl X x)
    (TB : TabB X.base X.mg c P) (hc : X.env.code = .ref c) (hm : (P, X.env.qual ++ "<lambda>") ∈ Tb) (hu : ∀ p ∈ Tb, p.1 = P → p.2 = X.env.qual ++ "<lambda>") (room : Room (k + 2) X.A) (room2 : Room (j + 1) X.A) (L : LamS X.env.scope scope) (hdef : defaultsOf params X.env = ([], []))
    (bound : ∀ (q : Str) (cl : List (Str × Addr)) (pm cv ctv : Value), bindArgs (PySem.W.kla_fn "<lambda>" q params body scope cl pm cv ctv) ⟨[], []⟩ = pure [])
    (hbody : ∀ (A : Around) (outer : List Env) (s : Shared) (H : Hp) (E : XK) (f c' : Addr), Room k (A.deeper (lamEnv X scope s.heap.objs.size f c')) → PE (lamCx X A outer s H E scope f c') body (t E))
    (hdb : (x == ("__debug__" : Str)) = false := by decide) (hd : (a == ("__debug__" : Str)) = false := by decide) (hcd : (a == ("__classdict__" : Str)) = false := by decide) :
    PE X (.Call (.Name x p) [.Lambda params body scope lpos] [] pos) (mLam Tb TT t) := by
  constructor
  rintro pins s σ H Q I ⟨tabs, told⟩
  obtain ⟨pg, bg, sc, dV, kV, doc, pm, cdv, ct, oc, an, od, osl, N, lk, hcd', hb, Sg, hN, hv, walk⟩ := F.ex
  refine wpAny_Call_Name_kw (ld_glob I hg F.at_ (PySem.W.callWith_K (h₀ := X.base) I.ok.mod.kin F.kp ?_ (by rfl) (by rfl)) hdb)
  refine (?_ : wpAny _ _ (spliced ((false, eval (.Lambda params body scope lpos) X.env) :: backTo pos (starEach [] X.env))) _ _ s)
  refine Calls.spliced_cons (lam_make2 I TB hc hm hu tabs hdef (L.has I.ok) fun f c' pm' ctv H1 s1 J ext T1 at_ hid off code => Calls.spliced_nil ⟨J.kIn, wpAny_call (codeAny_mono (R := CR C8.CX0 X.stack X.prog X.w H1 s1 Q C8.E0) ?_ fun r s2 out => ?_)⟩)
  · refine run_ofS (k := k + 1) (N := N) (ps := [a]) (us := [.ref f]) (vs := [.ref f]) lk hcd' Sg room J.env0 (hb s1 [.ref f] J.kIn rfl) (.cons rfl .nil) rfl fun room' => ?_
    obtain ⟨t', d, q⟩ := walk X rfl rfl rfl rfl rfl hok room2 s1 H1 f c' (X.env.qual ++ "<lambda>") (fun E G Q' => t E σ G Q') Q (fun W pn xe p1 p2 tk => ue_act (i := 0) J L at_ hid off (bound _ _ _ _ _) tk room' (fun A outer s H E r => hbody A outer s H E f c' r) hN hv hd hcd) code (told H1 ext T1)
    exact ⟨t', d.nox, q⟩
  · cases r with
    | error e => exact (show False from out).elim
    | ok fl =>
      cases fl with
      | ret u => exact J.after out
      | next => exact False.elim out
      | brk => exact False.elim out
      | cont => exact False.elim out
end
end
end GW

/-! written data read as data; a dict of ints that is written; a def with its code object -/
namespace GW
section
open PySem PySem.Spec PyProof.Rows L2
mutual
/-- the written value u is the datum -/
def kdp (K : PySem.W.Frag) : PyData → Value → Bool
  | .none, u => (match u with | .none => true | _ => false)
  | .bool b, u => (match u with | .bool c => b == c | _ => false)
  | .int i, u => (match u with | .int j _ => decide (j = i) | _ => false)
  | .str x, u => (match u with | .str y _ => decide (y = x) | _ => false)
  | .tuple ds, u => (match u with
    | .ref a => (match K.lookup a with
      | some ⟨.type c, _, .seq its _, _⟩ => decide (c = "tuple") && (Nat.ble its.toList.length sizeLine && kdpAll K ds its.toList)
      | _ => false)
    | _ => false)
  | .list ds, u => (match u with
    | .ref a => (match K.lookup a with
      | some ⟨.type c, none, .seq its _, _⟩ => decide (c = "list") && (Nat.ble its.toList.length sizeLine && kdpAll K ds its.toList)
      | _ => false)
    | _ => false)
  | _, _ => false
def kdpAll (K : PySem.W.Frag) : List PyData → List Value → Bool
  | [], us => us.isEmpty
  | d :: ds, us => (match us with | u :: vs => kdp K d u && kdpAll K ds vs | [] => false)
end
mutual
theorem kdp_ok {K : PySem.W.Frag} : ∀ (d : PyData) (u : Value), kdp K d u = true → ∃ v, L2.RelV v u ∧ ∀ H, Dp K H v d
  | .none, u, h => by
    unfold kdp at h
    cases u <;> first | exact ⟨.non, rfl, fun _ => .non⟩ | cases h
  | .bool b, u, h => by
    unfold kdp at h
    cases u <;> first | cases h | (rename_i c; have e : b = c := eq_of_beq h; subst e; exact ⟨.bl b, rfl, fun _ => .bl b⟩)
  | .int i, u, h => by
    unfold kdp at h
    cases u <;> first | cases h | (rename_i j t; have e : j = i := of_decide_eq_true h; subst e; exact ⟨.int j, ⟨t, rfl⟩, fun _ => .int j⟩)
  | .str x, u, h => by
    unfold kdp at h
    cases u <;> first | cases h | (rename_i y t; have e : y = x := of_decide_eq_true h; subst e; exact ⟨.str y, ⟨t, rfl⟩, fun _ => .str y⟩)
  | .tuple ds, u, h => by
    unfold kdp at h
    split at h
    · rename_i a
      split at h
      · rename_i c dd its n sl lk
        obtain ⟨h1, h⟩ := He.ba h
        obtain ⟨h2, h3⟩ := He.ba h
        have e := of_decide_eq_true h1
        subst e
        obtain ⟨vs, r, q⟩ := kdpAll_ok ds its.toList h3
        exact ⟨.ref a, rfl, fun H => .tup (.inr ⟨_, its, n, lk, rfl, rfl, by simpa using Nat.le_of_ble_eq_true h2, r⟩) (q H)⟩
      · cases h
    · cases h
  | .list ds, u, h => by
    unfold kdp at h
    split at h
    · rename_i a
      split at h
      · rename_i c its n sl lk
        obtain ⟨h1, h⟩ := He.ba h
        obtain ⟨h2, h3⟩ := He.ba h
        have e := of_decide_eq_true h1
        subst e
        obtain ⟨vs, r, q⟩ := kdpAll_ok ds its.toList h3
        exact ⟨.ref a, rfl, fun H => .lst (.inr ⟨_, its, n, lk, rfl, rfl, rfl, by simpa using Nat.le_of_ble_eq_true h2, r⟩) (q H)⟩
      · cases h
    · cases h
  | .dict _, u, h => by unfold kdp at h; cases h
theorem kdpAll_ok {K : PySem.W.Frag} : ∀ (ds : List PyData) (us : List Value), kdpAll K ds us = true → ∃ vs, Vals vs us ∧ ∀ H, DpAll K H vs ds
  | [], us, h => by
    unfold kdpAll at h
    cases us with
    | nil => exact ⟨[], .nil, fun _ => .nil⟩
    | cons _ _ => cases h
  | d :: ds, us, h => by
    unfold kdpAll at h
    cases us with
    | nil => cases h
    | cons u us =>
      obtain ⟨h1, h2⟩ := He.ba h
      obtain ⟨v, r, q⟩ := kdp_ok d u h1
      obtain ⟨vs, rs, qs⟩ := kdpAll_ok ds us h2
      exact ⟨v :: vs, .cons r rs, fun H => .cons (q H) (qs H)⟩
end
theorem relV_fun {v v' : V} {u : Value} (h : L2.RelV v u) (h' : L2.RelV v' u) : v = v' := by
  cases v <;> cases v' <;> first
    | rfl
    | (cases (show u = _ from h); cases h'; done)
    | (cases (show u = _ from h); cases h'; rfl)
    | (obtain ⟨t, rfl⟩ := h; obtain ⟨t', e⟩ := h'; cases e; rfl)
    | (obtain ⟨t, rfl⟩ := h; cases h'; done)
    | (obtain ⟨t', rfl⟩ := h'; cases h; done)
    | (obtain ⟨t', rfl⟩ := h'; obtain ⟨t, e⟩ := h; cases e; done)
theorem kdp_dp {K : PySem.W.Frag} {H : Hp} {d : PyData} {u : Value} {v : V} (h : kdp K d u = true) (r : L2.RelV v u) : Dp K H v d := by
  obtain ⟨v', r', q⟩ := kdp_ok d u h
  rw [relV_fun r r']
  exact q H
/-- the written dict at a: its int keys, their data -/
def kdI (K : PySem.W.Frag) (a : Addr) (kvs : List (Int × PyData)) : Bool := match K.lookup a with
  | some ⟨.type c, none, .dict es _, sl⟩ => decide (c = "dict") && (sl.isEmpty && kdes kvs es.toList)
  | _ => false
where kdes : List (Int × PyData) → List DictEntry → Bool
  | [], es => es.isEmpty
  | (i, d) :: r, es => (match es with
    | e :: es => (match e.key with | .int j _ => decide (j = i) | _ => false) && (decide (e.hash = hashInt i) && (kdp K d e.val && kdes r es))
    | [] => false)
/-- the datum at a key -/
def kgI : List (Int × PyData) → Int → Option PyData
  | [], _ => none
  | (j, d) :: r, i => if j = i then some d else kgI r i
theorem kdes_keys {P : Program} {w : World} {K : PySem.W.Frag} : ∀ {kvs : List (Int × PyData)} {es : List DictEntry}, kdI.kdes K kvs es = true → ∀ e ∈ es, ∃ k, (intKind P w).is k e.key = true ∧ e.hash = (intKind P w).hash k
  | [], es, h, e, he => by
    unfold kdI.kdes at h
    rw [List.isEmpty_iff.mp h] at he
    cases he
  | (i, d) :: r, [], h, e, he => by cases he
  | (i, d) :: r, x :: es, h, e, he => by
    unfold kdI.kdes at h
    obtain ⟨h1, h⟩ := He.ba h
    obtain ⟨h2, h⟩ := He.ba h
    obtain ⟨h3, h4⟩ := He.ba h
    rcases List.mem_cons.mp he with y | y
    · subst y
      refine ⟨i, ?_, of_decide_eq_true h2⟩
      split at h1
      · rename_i j t ek
        rw [ek, of_decide_eq_true h1]
        simp [intKind, Value.isInt]
      · cases h1
    · exact kdes_keys h4 e y
theorem kdes_find {P : Program} {w : World} {K : PySem.W.Frag} {i : Int} {d : PyData} : ∀ {kvs : List (Int × PyData)} {es : List DictEntry}, kdI.kdes K kvs es = true → kgI kvs i = some d → ∃ u, (es.find? fun e => (intKind P w).is i e.key).map (·.val) = some u ∧ kdp K d u = true
  | [], es, h, g => by cases g
  | (j, d') :: r, [], h, g => by cases h
  | (j, d') :: r, x :: es, h, g => by
    unfold kdI.kdes at h
    obtain ⟨h1, h⟩ := He.ba h
    obtain ⟨h2, h⟩ := He.ba h
    obtain ⟨h3, h4⟩ := He.ba h
    split at h1
    · rename_i j' t ek
      have ej : j' = j := of_decide_eq_true h1
      unfold kgI at g
      rw [List.find?_cons]
      by_cases y : j = i
      · rw [if_pos y] at g
        cases g
        have e1 : (intKind P w).is i x.key = true := by rw [ek, ej, y]; simp [intKind, Value.isInt]
        rw [e1]
        exact ⟨x.val, rfl, h3⟩
      · rw [if_neg y] at g
        have e1 : (intKind P w).is i x.key = false := by rw [ek, ej]; simp [intKind, Value.isInt, y]
        rw [e1]
        exact kdes_find h4 g
    · cases h1
/-- a[i], a written dict of ints -/
def oIxI (K : PySem.W.Frag) : R2 := fun x y H Q => match x, y with
  | .ref a, .int i => ∃ kvs d, kdI K a kvs = true ∧ kgI kvs i = some d ∧ ∀ v, (∀ H', Dp K H' v d) → Q v H
  | _, _ => False
theorem ux_I {X : Cx} : IxR X (oIxI X.K) := by
  intro value slice pins s σ H x y v u Q I rx ry h hs
  unfold oIxI at h
  split at h
  · rename_i a i
    obtain ⟨kvs, d, hk, hg, q⟩ := h
    obtain rfl : v = Value.ref a := rx
    obtain ⟨t, rfl⟩ := ry
    unfold kdI at hk
    split at hk
    · rename_i c es ep sl lk
      obtain ⟨h1, h⟩ := He.ba hk
      obtain ⟨h2, h3⟩ := He.ba h
      have e1 := of_decide_eq_true h1
      have e2 : sl = #[] := Array.isEmpty_iff.mp h2
      subst e1 e2
      obtain ⟨u, hu, hd⟩ := kdes_find (P := X.prog) (w := X.w) h3 hg
      obtain ⟨w', rw', dw⟩ := kdp_ok d u hd
      have hm : s.heap.MapOf (intKind X.prog X.w) a fun k => findBy (intKind X.prog X.w).is es k := ⟨_, es, ep, I.kIn a _ lk, ⟨rfl, rfl, rfl⟩, rfl, fun e he => kdes_keys h3 e (Array.mem_toList_iff.mpr he), fun _ => rfl⟩
      have hf : findBy (intKind X.prog X.w).is es i = some u := by
        unfold findBy
        rw [← hu]
        simp
      exact tail_any hm.typeIs PySem.F.slot_dict_getitem.lookup (wpAny_getItem_of (k := i) (by simp [intKind, Value.isInt]) hm hf ⟨w', H, I.tok _, rw', q w' dw⟩) hs
    · cases hk
  · exact h.elim
/-! ### a def with its code object -/
theorem funD_okC {P : Program} {w : World} {K : PySem.W.Frag} {mg : Str → Option Value} {base : Heap} {CX : CXT} {x qual : Str} {params : Arguments} {body : List Stmt} {scope : Scope} {dvs : List V} {kws : List (Str × V)} {p : He.Defn} {fd : FuncData} {N ps : List Str} {k : Nat} {sp : Sp}
    (F : FunD K x qual params body scope dvs kws (He.fAd K p) fd) (S : FnScope N ps scope) (len : ∀ vs H Q E, sp vs H Q E → vs.length = ps.length)
    (hbody : ∀ (cdv : Value) (A : Around) (outer : List Env) (s : Shared) (H : Hp) (vs : List V) (Q : VK) (E : XK), cdv = .ref (He.cT K p).1 → Room k (A.deeper (envOfC qual scope s.heap.objs.size (He.fAd K p) cdv)) → sp vs H Q E →
      ∃ t, PSs (cxOf CX P w K mg base N qual scope (He.fAd K p) cdv A outer s H E) body t ∧ t { nx := fun _ H' => Q .non H', rt := Q } (L2.start N vs) H) : FnOk P w K mg base CX (k + 1) (He.fAd K p) fd ps sp := by
  obtain ⟨oc, od, dV, kV, doc, pm, an, cdv, ct, osl, rfl, lk, hcd, _⟩ := F.ex
  obtain ⟨c, rfl⟩ := He.codeIn_ref hcd
  exact fn_of lk hcd S len fun A outer s H vs Q E hr hsp => hbody _ A outer s H vs Q E (congrArg Value.ref (He.codeOf_eq lk rfl).symm) hr hsp
end
end GW

/-! tuple * int, any int; sum, insert -/
namespace GW
section
open PySem PySem.Spec PyProof.Rows L2
theorem tup_same (l : Addr) (its : Array Value) (n : Nat) (dd : Option Addr) (sl : Array (Option Value)) (x : Int) (u : Tok) (c0 : (decide (x < -(2 ^ 63)) || decide (x ≥ 2 ^ 63)) = false) (c1 : (its.isEmpty || x == 1) = true) :
    Meets (Builtin.«tuple.__mul__» ⟨[.ref l, .int x u], []⟩) (fun _ R s => s.heap.get? l = some { cls := .type "tuple", dict := dd, data := .seq its n, slots := sl } ∧ R (.ok (.ret (Value.ref l))) s) :=
  .of_wp fun prog w A R s h => by
    obtain ⟨hp, g, d, tk, os⟩ := s
    obtain ⟨hl, h⟩ := h
    have f1 := AutoSeq1.idx_int
    wp_walk using wpAny_loadPart' hl
    repeat (first
      | (refine wpAny_ite_false (decide_eq_false (by rw [c0]; exact Bool.false_ne_true)) ?_; wp_walk using wpAny_loadPart' hl)
      | (refine wpAny_ite_true (decide_eq_true c1) ?_; wp_walk using wpAny_loadPart' hl))
    exact ⟨_, rfl, h⟩
theorem tup_zero (l : Addr) (its : Array Value) (n : Nat) (dd : Option Addr) (sl : Array (Option Value)) (x : Int) (u : Tok) (c0 : (decide (x < -(2 ^ 63)) || decide (x ≥ 2 ^ 63)) = false) (c1 : (its.isEmpty || x == 1) = false) (c2 : (decide (x ≤ 0) || its.isEmpty) = true) :
    Meets (Builtin.«tuple.__mul__» ⟨[.ref l, .int x u], []⟩) (fun _ R s => s.heap.get? l = some { cls := .type "tuple", dict := dd, data := .seq its n, slots := sl } ∧
      R (.ok (.ret (Value.ref s.heap.objs.size))) { s with heap := s.heap.push { cls := Value.type "tuple", data := Data.seq #[] }, toks := s.toks }) :=
  .of_wp fun prog w A R s h => by
    obtain ⟨hp, g, d, tk, os⟩ := s
    obtain ⟨hl, h⟩ := h
    have f1 := AutoSeq1.idx_int
    wp_walk using wpAny_loadPart' hl
    repeat (first
      | (refine wpAny_ite_false (decide_eq_false (by rw [c0]; exact Bool.false_ne_true)) ?_; wp_walk using wpAny_loadPart' hl)
      | (refine wpAny_ite_false (decide_eq_false (by rw [c1]; exact Bool.false_ne_true)) ?_; wp_walk using wpAny_loadPart' hl)
      | (refine wpAny_ite_true (decide_eq_true c2) ?_; wp_walk using wpAny_loadPart' hl))
    exact ⟨_, rfl, h⟩
/-- a tuple times a number, whatever it is -/
def rRepU (K : PySem.W.Frag) : R2 := fun x y H Q => ∃ l k xs, x = .ref l ∧ y = .int k ∧ SqT K H l xs ∧ -1000 ≤ k ∧ k ≤ 1000 ∧ xs.length ≤ 1000 ∧
  ((xs = [] ∨ k = 1) → Q (.ref l) H) ∧ (xs ≠ [] → k ≠ 1 → ∀ p, H p = none → Q (.ref p) (upd H p (.tup (List.replicate k.toNat xs).flatten)))
variable {X : Cx}
theorem op_repU : OpR X (binaryOp .Mult) (rRepU X.K) := by
  intro pins s σ H x y v u Q I rx ry h
  obtain ⟨l, k, xs, rfl, rfl, hT, k1, k2, hz, q1, q2⟩ := h
  by_cases big : xs ≠ [] ∧ 2 ≤ k
  · exact op_repT pins s σ H _ _ v u Q I rx ry ⟨l, k, xs, rfl, rfl, hT, big.1, big.2, k2, hz, q2 big.1 (by omega)⟩
  cases rx
  obtain ⟨t, rfl⟩ := ry
  obtain ⟨its, r, ⟨⟨cls, dd, data, sl⟩, ho, hc, n, hd⟩, hs⟩ := I.tuple hT
  simp only at hc hd
  subst hc hd
  have emp : its.toArray.isEmpty = true ↔ xs = [] := by
    have hl := r.length
    cases its <;> cases xs <;> simp at hl ⊢
  have c0 : (decide (k < -(2 ^ 63)) || decide (k ≥ 2 ^ 63)) = false := by
    rw [decide_eq_false (by omega), decide_eq_false (by omega)] <;> rfl
  have road : ∀ {R : Result → Shared → Prop}, (∀ (A : Around), codeAny (model X.prog X.w) A (.call (.builtin "tuple.__mul__") ⟨[.ref l, .int k t], []⟩) R s → True) → True := fun _ => trivial
  by_cases one : xs = [] ∨ k = 1
  · have c1 : (its.toArray.isEmpty || k == 1) = true := by
      rcases one with e | e
      · rw [emp.mpr e, Bool.true_or]
      · rw [e]; simp
    refine wpAny_binaryOp_repeat_ref (T := "tuple") (U := "int") (by decide) ⟨_, ho, rfl⟩ (fun s' => typeIs_int s' k t) noFill_tuple_mul F.fills_int_mul F.slot_int_rmul repeat_tuple F.slot_int_index.lookup
      (call_meets F.slot_int_rmul (typeIs_int s k t) F.entry_int_rmul (F.args_int_rmul_2 _ _) (int_rmul_tuple k t l its.toArray n dd sl) ⟨ho, rfl, ⟨_, ho, rfl⟩, ?_⟩)
    exact call_meets F.slot_tuple_mul ⟨_, ho, rfl⟩ F.entry_tuple_mul (F.args_tuple_mul_2 _ _) (tup_same l its.toArray n dd sl k t c0 c1) ⟨ho, ⟨.ref l, H, I, rfl, q1 one⟩⟩
  · have n1 : xs ≠ [] := fun e => one (.inl e)
    have n2 : k ≠ 1 := fun e => one (.inr e)
    have n3 : k ≤ 0 := by
      have z : ¬ 2 ≤ k := fun h => big ⟨n1, h⟩
      omega
    have e0 : its.toArray.isEmpty = false := by
      cases q : its.toArray.isEmpty with
      | false => rfl
      | true => exact absurd (emp.mp q) n1
    have c1 : (its.toArray.isEmpty || k == 1) = false := by rw [e0]; simp [n2]
    have c2 : (decide (k ≤ 0) || its.toArray.isEmpty) = true := by rw [e0, Bool.or_false]; exact decide_eq_true n3
    refine wpAny_binaryOp_repeat_ref (T := "tuple") (U := "int") (by decide) ⟨_, ho, rfl⟩ (fun s' => typeIs_int s' k t) noFill_tuple_mul F.fills_int_mul F.slot_int_rmul repeat_tuple F.slot_int_index.lookup
      (call_meets F.slot_int_rmul (typeIs_int s k t) F.entry_int_rmul (F.args_int_rmul_2 _ _) (int_rmul_tuple k t l its.toArray n dd sl) ⟨ho, rfl, ⟨_, ho, rfl⟩, ?_⟩)
    refine call_meets F.slot_tuple_mul ⟨_, ho, rfl⟩ F.entry_tuple_mul (F.args_tuple_mul_2 _ _) (tup_zero l its.toArray n dd sl k t c0 c1 c2) ⟨ho, ?_⟩
    have e : (List.replicate k.toNat xs).flatten = [] := by rw [show k.toNat = 0 from by omega]; rfl
    have q := q2 n1 n2 s.heap.objs.size (I.hok.fresh (Nat.le_refl _))
    rw [e] at q
    exact ⟨.ref s.heap.objs.size, _, I.laid (t' := s.toks) (o := .tup []) (fun b ob q => Heap.get?_push_of_some _ q) (Nat.le_refl _) ⟨by simp, [], .nil, IsTup.new _ _⟩, rfl, q⟩
def rSumU (K : PySem.W.Frag) : List V → Hp → VK → Prop := fun vs H Q => match vs with
  | [.ref a] => ∃ ns : List Int, SqL K H a (ns.map V.int) ∧ Q (.int ns.sum) H
  | _ => False
theorem cu_sum (hc : X.calm = true) : CallR X (.builtin "sum") (rSumU X.K) := imC (cr_sum hc) fun vs H Q h => by
  unfold rSumU at h
  split at h
  · obtain ⟨ns, h1, q⟩ := h
    exact ⟨_, ns, rfl, h1, q⟩
  · exact h.elim
/-- xs.insert(i, y) -/
abbrev rInsert : V → List V → Hp → VK → Prop := fun x vs H Q => ∃ (l : Addr) (xs : List V) (i : Int) (y : V), x = .ref l ∧ vs = [.int i, y] ∧ H l = some (.lst xs) ∧ xs.length < sizeLine ∧ 0 ≤ i ∧ i < 2 ^ 63 ∧
    Q .non (upd H l (.lst (xs.take i.toNat ++ [y] ++ xs.drop i.toNat)))
def oMulU (K : PySem.W.Frag) : R2 := fun x y H Q => match x, y with
  | .int i, .int j => CMul i j ∧ Q (.int (i * j)) H
  | .str z, .int j => MulOk z j ∧ Q (.str (Txt.mul z j)) H
  | .ref i, .int j => rRep (.ref i) (.int j) H Q ∨ rRepU K (.ref i) (.int j) H Q
  | _, _ => False
theorem uo_mulU : OpR X (binaryOp .Mult) (oMulU X.K) := by
  intro pins s σ H x y v u Q I rx ry h
  cases x <;> cases y <;> first
    | exact False.elim h
    | exact op_mul pins s σ H _ _ v u Q I rx ry ⟨_, _, rfl, rfl, h.1, h.2⟩
    | exact h.elim (op_rep pins s σ H _ _ v u Q I rx ry) (op_repU pins s σ H _ _ v u Q I rx ry)
    | (obtain ⟨t, rfl⟩ := rx; obtain ⟨t', rfl⟩ := ry; exact PySem.SB.mul h.1 fun t2 k => ⟨.str _, H, I.tok _, ⟨_, rfl⟩, h.2⟩)
/-! ### facts by place -/
theorem all_at {l : List Bool} (h : l.all id = true) (i : Nat) {b : Bool} (e : l[i]? = some b) : b = true := List.all_eq_true.mp h b (List.mem_of_getElem? e)
def tabsB (l : List (Addr × Str)) : Bool := l.all fun p => l.all fun r => !(decide (p.1 = r.1)) || decide (p.2 = r.2)
theorem tabs_un {l : List (Addr × Str)} (h : tabsB l = true) {P : Addr} {z : Str} (i : Nat) (e : l[i]? = some (P, z)) : ∀ p ∈ l, p.1 = P → p.2 = z := fun p hp q => by
  have h1 := List.all_eq_true.mp (List.all_eq_true.mp h p hp) (P, z) (List.mem_of_getElem? e)
  rw [decide_eq_true q] at h1
  exact of_decide_eq_true (by simpa using h1)
def clsBody : Stmt → List Stmt
  | .ClassDef (body := b) .. => b
  | _ => []
end
end GW

/-! data in a growing heap -/
namespace GW
section
open PySem L2
variable {K : PySem.W.Frag}
/-- what is new since H -/
def nw (H H' : Hp) : Hp := fun b => match H b with
  | none => H' b
  | some _ => none
/-- all but what stands at D -/
def hid (D : Addr) (H : Hp) : Hp := fun b => if b = D then none else H b
theorem nw_le {H H' : Hp} : Same (nw H H') H' := fun b o e => by
  unfold nw at e
  split at e
  · exact e
  · cases e
theorem nw_at {H H' : Hp} {b : Addr} {o : HO} (n : H b = none) (e : H' b = some o) : nw H H' b = some o := by
  unfold nw
  rw [n]
  exact e
theorem nw_no {H H' : Hp} {b : Addr} {o : HO} (e : nw H H' b = some o) : H b = none ∧ H' b = some o := by
  unfold nw at e
  split at e
  · exact ⟨by assumption, e⟩
  · cases e
theorem same_none {H H' : Hp} {b : Addr} (s : Same H H') (n : H' b = none) : H b = none := by
  cases e : H b with
  | none => rfl
  | some o => rw [s _ _ e] at n; cases n
/-- new since later, in a smaller heap: new since earlier, in a greater one -/
theorem nw_mono {B H H' H2 : Hp} (s : Same B H) (t : Same H' H2) : Same (nw H H') (nw B H2) := fun b o e => by
  obtain ⟨h1, h2⟩ := nw_no e
  exact nw_at (same_none s h1) (t _ _ h2)
theorem hid_le {D : Addr} {H : Hp} : Same (hid D H) H := fun b o e => by
  unfold hid at e
  split at e
  · cases e
  · exact e
theorem hid_at {D b : Addr} {H : Hp} {o : HO} (n : b ≠ D) (e : H b = some o) : hid D H b = some o := by
  unfold hid
  rw [if_neg n]
  exact e
/-- what was there before D was, is there without it -/
theorem hid_of {D : Addr} {G H : Hp} (n : G D = none) (s : Same G H) : Same G (hid D H) := fun b o e => hid_at (fun z => by rw [z, n] at e; cases e) (s _ _ e)
theorem hid_upd {D : Addr} {H : Hp} {o : HO} : hid D (upd H D o) = hid D H := by
  funext b
  unfold hid upd
  by_cases e : b = D <;> simp [e]
/-- new since a heap that has D, so not D -/
theorem hid_nw {D : Addr} {B H H' : Hp} {o : HO} (s : Same B H) (e : H D = some o) : Same (nw H H') (hid D (nw B H')) := fun b u x => by
  obtain ⟨h1, h2⟩ := nw_no x
  exact hid_at (fun z => by rw [z, e] at h1; cases h1) (nw_at (same_none s h1) h2)
mutual
theorem dp_le {G H : Hp} (s : Same G H) : ∀ (d : PyData) (v : V), Dp K G v d → Dp K H v d
  | .none, _, h => by cases h; exact .non
  | .bool b, _, h => by cases h; exact .bl b
  | .int i, _, h => by cases h; exact .int i
  | .str x, _, h => by cases h; exact .str x
  | .list ds, _, h => by
    cases h with
    | lst q a => exact .lst (s.seq q) (dpa_le s ds _ a)
  | .tuple ds, _, h => by
    cases h with
    | tup q a => exact .tup (same_seqT s q) (dpa_le s ds _ a)
  | .dict _, _, h => by cases h
theorem dpa_le {G H : Hp} (s : Same G H) : ∀ (ds : List PyData) (vs : List V), DpAll K G vs ds → DpAll K H vs ds
  | [], _, h => by cases h; exact .nil
  | d :: ds, _, h => by
    cases h with
    | cons a b => exact .cons (dp_le s d _ a) (dpa_le s ds _ b)
end
theorem dpa_snoc {H : Hp} : ∀ {vs : List V} {ds : List PyData} {v : V} {d : PyData}, DpAll K H vs ds → Dp K H v d → DpAll K H (vs ++ [v]) (ds ++ [d])
  | _, _, _, _, .nil, h => .cons h .nil
  | _, _, _, _, .cons a b, h => .cons a (dpa_snoc b h)
theorem dpa_len {H : Hp} : ∀ {vs : List V} {ds : List PyData}, DpAll K H vs ds → vs.length = ds.length
  | _, _, .nil => rfl
  | _, _, .cons _ b => by rw [List.length_cons, List.length_cons, dpa_len b]
theorem dpa_at {H : Hp} : ∀ {vs : List V} {ds : List PyData} {i : Nat} {d : PyData}, DpAll K H vs ds → ds[i]? = some d → ∃ v, vs[i]? = some v ∧ Dp K H v d
  | _, _, _, _, .nil, h => by cases h
  | _, _, 0, _, .cons a _, h => by
    cases h
    exact ⟨_, rfl, a⟩
  | _, _, i + 1, _, .cons _ b, h => dpa_at (i := i) b h
theorem dpa_app {H : Hp} : ∀ {vs us : List V} {ds es : List PyData}, DpAll K H vs ds → DpAll K H us es → DpAll K H (vs ++ us) (ds ++ es)
  | _, _, _, _, .nil, h => h
  | _, _, _, _, .cons a b, h => .cons a (dpa_app b h)
theorem dp_tup {H : Hp} {v : V} {ds : List PyData} (h : Dp K H v (.tuple ds)) : ∃ a xs, v = .ref a ∧ SqT K H a xs ∧ DpAll K H xs ds := by
  cases h with
  | tup q a => exact ⟨_, _, rfl, q, a⟩
theorem dp_lst {H : Hp} {v : V} {ds : List PyData} (h : Dp K H v (.list ds)) : ∃ a xs, v = .ref a ∧ SqL K H a xs ∧ DpAll K H xs ds := by
  cases h with
  | lst q a => exact ⟨_, _, rfl, q, a⟩
theorem dp_int {H : Hp} {v : V} {i : Int} (h : Dp K H v (.int i)) : v = .int i := by cases h; rfl
theorem dp_str {H : Hp} {v : V} {i : Str} (h : Dp K H v (.str i)) : v = .str i := by cases h; rfl
theorem dpa_ints {H : Hp} : ∀ {vs : List V} {ns : List Int}, DpAll K H vs (ns.map PyData.int) → vs = ns.map V.int
  | _, [], h => by cases h; rfl
  | _, n :: ns, h => by
    cases h with
    | cons a b => rw [dp_int a, dpa_ints b]; rfl
theorem dpa_int' {H : Hp} : ∀ ns : List Int, DpAll K H (ns.map V.int) (ns.map PyData.int)
  | [] => .nil
  | n :: ns => .cons (.int n) (dpa_int' ns)
theorem nw_none {H H' : Hp} {D : Addr} (h : H' D = none) : nw H H' D = none := by
  unfold nw
  split
  · exact h
  · rfl
/-- data is given back, all of it new -/
def retD (K : PySem.W.Frag) (H : Hp) (Q : VK) (d : PyData) : Prop := ∀ v H', Same H H' → Dp K (nw H H') v d → Q v H'
/-! ### a comprehension that makes data -/
section
variable {J : It} {G : Hp → Prop} {Y : Nat → Hp → V → Hp → Prop} {n : Nat}
theorem lc_D (w : Walk J n G Y) (B : Hp) (f : Nat → Option PyData) {g : TG} {tt : TT} {te : TE} {vs : List Nat} {σ : St} {H1 : Hp} {D : Addr} {Qd : Hp → Prop} (hD : H1 D = none) (hB : Same B H1) (hn : n ≤ sizeLine)
    (hG : ∀ H, Same H1 H → G H) (hY : ∀ i H x H', i < n → Y i H x H' → Same H H')
    (hs : ∀ i x H H' (Q : V → Hp → Prop) (R : Hp → Prop), i < n → Same H1 H → (∃ ys, H D = some (.lst ys)) → Y i H x H' → (∀ H2 y d, Same H' H2 → f i = some d → Dp K (hid D (nw B H2)) y d → Q y H2) → (∀ H2, Same H' H2 → f i = none → R H2) →
      g x (wipe σ vs) H' fun σ2 H2 => wipe σ2 vs = wipe σ vs ∧ tt σ2 H2 fun b H3 => if b = true then te σ2 H3 Q else R H3)
    (hd : ∀ H, Same H1 H → (∃ ys, H D = some (.lst ys) ∧ DpAll K (nw B H) ys ((List.range n).filterMap f)) → Dp K (nw B H) (.ref D) (.list ((List.range n).filterMap f)) → Qd H) :
    ∃ W : Nat → Nat → Hp → Prop, (∃ m, W 0 m (upd H1 D (.lst []))) ∧ ∀ i m H, W i m H →
      (J.stop i H ∧ Qd H) ∨ (J.go i H ∧ ∃ Nx : Hp → Prop, (∀ H', Nx H' → ∃ m', m' < m ∧ W (i + 1) m' H') ∧ ∀ x H', J.yld i H x H' → g x (wipe σ vs) H' fun σ2 H2 => wipe σ2 vs = wipe σ vs ∧ tt σ2 H2 fun b H3 =>
        if b = true then te σ2 H3 fun y H4 => ∃ acc, H4 D = some (.lst acc) ∧ acc.length < sizeLine ∧ Nx (upd H4 D (.lst (acc ++ [y]))) else Nx H3) := by
  have nB : B D = none := same_none hB hD
  refine lc_it w (fun i H => Same H1 H ∧ ∃ ys, H D = some (.lst ys) ∧ ys.length ≤ i ∧ DpAll K (hid D (nw B H)) ys ((List.range i).filterMap f)) ⟨same_new hD, [], upd_same, Nat.le_refl _, .nil⟩ (fun i H _ p => hG H p.1) ?_ ?_
  · rintro i x H H' hi ⟨s, ys, e, el, a⟩ y
    have sy := hY i H x H' hi y
    have more : ∀ H2, Same H' H2 → DpAll K (hid D (nw B H2)) ys ((List.range i).filterMap f) := fun H2 s2 => dpa_le (fun b o z => by
      unfold hid at z ⊢
      split at z
      · cases z
      · rw [if_neg (by assumption)]
        obtain ⟨h1, h2⟩ := nw_no z
        exact nw_at h1 (s2 _ _ (sy _ _ h2))) _ _ a
    refine hs i x H H' _ _ hi s ⟨ys, e⟩ y (fun H2 v d s2 ef hv => ⟨ys, s2 _ _ (sy _ _ e), by omega, ?_⟩) fun H2 s2 ef => ?_
    · refine ⟨same_upd ((s.trans sy).trans s2) hD, ys ++ [v], upd_same, by simp; omega, ?_⟩
      rw [List.range_succ, List.filterMap_append, List.filterMap_cons, ef, List.filterMap_nil]
      have eh : hid D (nw B (upd H2 D (.lst (ys ++ [v])))) = hid D (nw B H2) := by
        funext b
        unfold hid nw upd
        by_cases z : b = D
        · simp [z]
        · simp [z]
      rw [eh]
      exact dpa_snoc (more H2 s2) hv
    · refine ⟨(s.trans sy).trans s2, ys, s2 _ _ (sy _ _ e), by omega, ?_⟩
      rw [List.range_succ, List.filterMap_append, List.filterMap_cons, ef, List.filterMap_nil, List.append_nil]
      exact more H2 s2
  · rintro H ⟨s, ys, e, _, a⟩
    exact hd H s ⟨ys, e, dpa_le hid_le _ _ a⟩ (.lst (SqL.of (nw_at nB e)) (dpa_le hid_le _ _ a))
end
end
end GW

/-! data in tuples of data -/
namespace GW
section
open PySem PyProof.Rows L2
variable {X : Cx}
/-- in, not in: as oIn; data in a tuple, too -/
def oInU (K : PySem.W.Frag) (neg : Bool) : R2 := fun x y H Q => match y with
  | .str z => oIn K neg x (.str z) H Q
  | .ref a => oIn K neg x (.ref a) H Q ∨ ∃ d ds, Dp K H x d ∧ Dp K H (.ref a) (.tuple ds) ∧ SeqAt.shaped d = true ∧ SeqAt.shaped (.tuple ds) = true ∧ Q (.bl (ng neg <| ds.any fun z => PyData.eqv z d)) H
  | _ => False
theorem uo_inU (hu : X.A.units + 65 < cLine) : OpR X (compareOp .In) (oInU X.K false) := by
  intro pins s σ H x y v u Q I rx ry h
  cases y with
  | str z => exact uo_in hu pins s σ H _ _ v u Q I rx ry h
  | ref a =>
    rcases h with h | ⟨d, ds, hd, he, sd, se, q⟩
    · exact uo_in hu pins s σ H _ _ v u Q I rx ry h
    · obtain ⟨as, r1⟩ := Dp.reads I d x v hd rx
      obtain ⟨bs, r2⟩ := Dp.reads I (.tuple ds) _ u he ry
      exact SeqAt.in_tuple_reads r2 r1 (SeqAt.canLay_of_shaped se) (SeqAt.canLay_of_shaped sd) (room_in_shaped sd hu) ⟨.bl _, H, I, rfl, q⟩
  | _ => exact False.elim h
theorem uo_ninU (hu : X.A.units + 65 < cLine) : OpR X (compareOp .NotIn) (oInU X.K true) := by
  intro pins s σ H x y v u Q I rx ry h
  cases y with
  | str z => exact uo_nin hu pins s σ H _ _ v u Q I rx ry h
  | ref a =>
    rcases h with h | ⟨d, ds, hd, he, sd, se, q⟩
    · exact uo_nin hu pins s σ H _ _ v u Q I rx ry h
    · obtain ⟨as, r1⟩ := Dp.reads I d x v hd rx
      obtain ⟨bs, r2⟩ := Dp.reads I (.tuple ds) _ u he ry
      exact SeqAt.notIn_tuple_reads r2 r1 (SeqAt.canLay_of_shaped se) (SeqAt.canLay_of_shaped sd) (room_in_shaped sd hu) ⟨.bl _, H, I, rfl, q⟩
  | _ => exact False.elim h
end
end GW
namespace GW
section
open PySem PyProof.Rows L2
variable {X : Cx}
/-- // by any small number but nought -/
def oDivN : R2 := fun x y H Q => match x, y with
  | .int i, .int j => CDivN i j ∧ Q (.int (i.fdiv j)) H
  | _, _ => False
theorem uo_divN : OpR X (binaryOp .FloorDiv) oDivN := by
  intro pins s σ H x y v u Q I rx ry h
  cases x <;> cases y <;> first
    | exact False.elim h
    | exact op_fdivN pins s σ H _ _ v u Q I rx ry ⟨_, _, rfl, rfl, h.1, h.2⟩
end
end GW

/-! data where lambdas are made: all but the tables stands -/
namespace GW
section
open PySem L2
variable {K : PySem.W.Frag}
theorem extn_sq {G H : Hp} (s : LamX.ExtN G H) {a : Addr} {xs : List V} (h : SqL K G a xs) : SqL K H a xs := by
  rcases h with (h | ⟨o, h⟩) | h
  · exact .inl (.inl (s _ _ h (fun _ z => nomatch z)))
  · exact .inl (.inr ⟨o, s _ _ h (fun _ z => nomatch z)⟩)
  · exact .inr h
theorem extn_sqT {G H : Hp} (s : LamX.ExtN G H) {a : Addr} {xs : List V} (h : SqT K G a xs) : SqT K H a xs := by
  rcases h with (h | ⟨o, h⟩) | h
  · exact .inl (.inl (s _ _ h (fun _ z => nomatch z)))
  · exact .inl (.inr ⟨o, s _ _ h (fun _ z => nomatch z)⟩)
  · exact .inr h
mutual
theorem dp_ext {G H : Hp} (s : LamX.ExtN G H) : ∀ (d : PyData) (v : V), Dp K G v d → Dp K H v d
  | .none, _, h => by cases h; exact .non
  | .bool b, _, h => by cases h; exact .bl b
  | .int i, _, h => by cases h; exact .int i
  | .str x, _, h => by cases h; exact .str x
  | .list ds, _, h => by
    cases h with
    | lst q a => exact .lst (extn_sq s q) (dpa_ext s ds _ a)
  | .tuple ds, _, h => by
    cases h with
    | tup q a => exact .tup (extn_sqT s q) (dpa_ext s ds _ a)
  | .dict _, _, h => by cases h
theorem dpa_ext {G H : Hp} (s : LamX.ExtN G H) : ∀ (ds : List PyData) (vs : List V), DpAll K G vs ds → DpAll K H vs ds
  | [], _, h => by cases h; exact .nil
  | d :: ds, _, h => by
    cases h with
    | cons a b => exact .cons (dp_ext s d _ a) (dpa_ext s ds _ b)
end
theorem dpa_mem {H : Hp} : ∀ {vs : List V} {ds : List PyData} {x : V}, DpAll K H vs ds → x ∈ vs → ∃ d ∈ ds, Dp K H x d
  | _, _, _, .nil, h => by cases h
  | _, _, x, .cons a b, h => by
    cases h with
    | head => exact ⟨_, List.mem_cons_self, a⟩
    | tail _ h =>
      obtain ⟨d, hd, e⟩ := dpa_mem b h
      exact ⟨d, List.mem_cons_of_mem _ hd, e⟩
theorem same_ext {G H : Hp} (s : Same G H) : LamX.ExtN G H := fun b o h _ => s b o h
/-- tables stand where one list is written -/
theorem tabs_kp {T : List (Addr × Str)} {G H : Hp} {s : Addr} {xs : List V} (t : LamX.Tabs T G) (k : Kp s G H) (e : G s = some (.lst xs)) : LamX.Tabs T H := fun p hp => by
  obtain ⟨ps, h, ok, f⟩ := t p hp
  refine ⟨ps, k _ _ (fun z => ?_) h, ok, fun pos cv hc => ?_⟩
  · rw [z, e] at h; cases h
  · obtain ⟨c, e1, e2⟩ := f pos cv hc
    refine ⟨c, e1, k _ _ (fun z => ?_) e2⟩
    rw [z, e] at e2; cases e2
/-- what is new since B, none of its objects a table: kept where all but p stands -/
theorem nw_kp {B G H : Hp} {p : Addr} {o : HO} (k : Kp p G H) (e : B p = some o) : Same (nw B G) H := fun b u z => by
  obtain ⟨h1, h2⟩ := nw_no z
  exact k _ _ (fun w => by rw [w, e] at h1; cases h1) h2
end
end GW

namespace GW
section
open PySem PyProof.Rows L2
def tf : List He.Defn := [("_law_refused", none)]
def tabs (K : PySem.W.Frag) : List (Addr × Str) := [((He.cT K ("_law_refused", none)).2, ("_law_refused" ++ ".<locals>." : Str) ++ "<lambda>")]
structure EF (K : PySem.W.Frag) : Prop where
  e_BadDimension : ErrC K (He.ga K "BadDimension")
  n_BadDimension : ∀ f ∈ (["value"] : List Str), PySem.W.findIn K (.ref (He.ga K "BadDimension")) f = some none
  i_BadDimension_BadDimension : PySem.W.kitOne K (.ref (He.ga K "BadDimension")) (.ref (He.ga K "BadDimension")) = some true
  i_BadDimension_BadNumber : PySem.W.kitOne K (.ref (He.ga K "BadDimension")) (.ref (He.ga K "BadNumber")) = some false
  i_BadDimension_BadPlacement : PySem.W.kitOne K (.ref (He.ga K "BadDimension")) (.ref (He.ga K "BadPlacement")) = some false
  i_BadDimension_BadStructure : PySem.W.kitOne K (.ref (He.ga K "BadDimension")) (.ref (He.ga K "BadStructure")) = some false
  m_BadDimension_GiveError : PySem.W.exmOne K (.ref (He.ga K "BadDimension")) (.ref (He.ga K "GiveError")) = some true
  i_BadDimension_TooMany : PySem.W.kitOne K (.ref (He.ga K "BadDimension")) (.ref (He.ga K "TooMany")) = some false
  e_BadNumber : ErrC K (He.ga K "BadNumber")
  n_BadNumber : ∀ f ∈ (["part"] : List Str), PySem.W.findIn K (.ref (He.ga K "BadNumber")) f = some none
  i_BadNumber_BadDimension : PySem.W.kitOne K (.ref (He.ga K "BadNumber")) (.ref (He.ga K "BadDimension")) = some false
  i_BadNumber_BadNumber : PySem.W.kitOne K (.ref (He.ga K "BadNumber")) (.ref (He.ga K "BadNumber")) = some true
  i_BadNumber_BadPlacement : PySem.W.kitOne K (.ref (He.ga K "BadNumber")) (.ref (He.ga K "BadPlacement")) = some false
  i_BadNumber_BadStructure : PySem.W.kitOne K (.ref (He.ga K "BadNumber")) (.ref (He.ga K "BadStructure")) = some false
  m_BadNumber_GiveError : PySem.W.exmOne K (.ref (He.ga K "BadNumber")) (.ref (He.ga K "GiveError")) = some true
  i_BadNumber_TooMany : PySem.W.kitOne K (.ref (He.ga K "BadNumber")) (.ref (He.ga K "TooMany")) = some false
  k_ENDS : kdI K (He.ga K "ENDS") [(1, (.tuple [(.tuple [(.int 0), (.int 1)])])), (2, (.tuple [(.tuple [(.int 0), (.int 1)]), (.tuple [(.int 0), (.int 2)]), (.tuple [(.int 1), (.int 2)])])), (3, (.tuple [(.tuple [(.int 0), (.int 1)]), (.tuple [(.int 0), (.int 2)]), (.tuple [(.int 0), (.int 3)]), (.tuple [(.int 1), (.int 2)]), (.tuple [(.int 2), (.int 3)]), (.tuple [(.int 3), (.int 1)])]))] = true

end
end GW
namespace GW
open PySem PyProof.Rows L2
/-! ### values -/
def isIntV : V → Bool
  | .int _ => true
  | _ => false
/-- a value of a known kind -/
def Kn (K : PySem.W.Frag) (H : Hp) : V → Prop
  | .non => True
  | .bl _ => True
  | .int _ => True
  | .str _ => True
  | .ref a => ∃ t, AtT K H a t
  | _ => False
def withinV (lo hi : Int) : V → Bool
  | .int i => decide (lo ≤ i) && decide (i ≤ hi)
  | _ => false
def Dim (d : Int) : Prop := d = 1 ∨ d = 2 ∨ d = 3
def tupI (ns : List Int) : PyData := .tuple (ns.map .int)
def seg (e : List (List Int)) : PyData := .tuple (e.map tupI)
def rowsD (rs : List (List Int)) : PyData := .list (rs.map fun r => .list (r.map .int))
def cornD (d : Int) : List (List Int) := if d = 1 then [[0], [1]] else if d = 2 then [[0, 0], [1, 0], [0, 1]] else [[0, 0, 0], [1, 0, 0], [0, 1, 0], [0, 0, 1]]
def edgeD (d : Int) : List (List (List Int)) := if d = 1 then [[[0], [1]]] else if d = 2 then [[[0, 0], [1, 0]], [[0, 0], [0, 1]], [[1, 0], [0, 1]]]
  else [[[0, 0, 0], [1, 0, 0]], [[0, 0, 0], [0, 1, 0]], [[0, 0, 0], [0, 0, 1]], [[1, 0, 0], [0, 1, 0]], [[0, 1, 0], [0, 0, 1]], [[0, 0, 1], [1, 0, 0]]]
def widD (d : Int) : Int := if d = 1 then 1 else if d = 2 then 3 else 6
def oppL (d at_ : Int) : List (List Int) := if d = 1 then [] else if d = 2 then (if at_ = 0 then [[0, 1]] else if at_ = 1 then [[1, 0]] else [[0, 0]])
  else if at_ = 0 then [[0, 1, 0], [0, 0, 1]] else if at_ = 1 then [[0, 0, 1], [1, 0, 0]] else if at_ = 2 then [[1, 0, 0], [0, 1, 0]] else if at_ = 3 then [[0, 0, 0], [0, 0, 1]] else if at_ = 4 then [[0, 0, 0], [1, 0, 0]] else [[0, 0, 0], [0, 1, 0]]
/-! ### the program -/
def sp_is_integer (K : PySem.W.Frag) : Sp := fun vs H Q _ => ∃ v, vs = [v] ∧ Kn K H v ∧ Q (.bl (isIntV v)) H
def sp_is_within (K : PySem.W.Frag) : Sp := fun vs H Q _ => ∃ v lo hi, vs = [v, .int lo, .int hi] ∧ Kn K H v ∧ Q (.bl (withinV lo hi v)) H
def sp_width_of (K : PySem.W.Frag) : Sp := fun vs H Q _ => ∃ d, vs = [.int d] ∧ Dim d ∧ Q (.int (widD d)) H
def sp_corners_in (K : PySem.W.Frag) : Sp := fun vs H Q _ => ∃ d, vs = [.int d] ∧ Dim d ∧ retD K H Q (.tuple ((cornD d).map tupI))
def sp_edges_in (K : PySem.W.Frag) : Sp := fun vs H Q _ => ∃ d, vs = [.int d] ∧ Dim d ∧ retD K H Q (.tuple ((edgeD d).map seg))
def sp_opposite_in (K : PySem.W.Frag) : Sp := fun vs H Q _ => ∃ d at_, vs = [.int d, .int at_] ∧ Dim d ∧ 0 ≤ at_ ∧ at_ < widD d ∧ retD K H Q (seg (oppL d at_))
def badV (K : PySem.W.Frag) (H : Hp) (E : XK) (x f : Str) (v : V) : Prop := ∀ d, H d = none → E (.ref (He.ga K x)) (some d) (upd H d (.xd [(f, v)]))
def sp_need_dimension (K : PySem.W.Frag) : Sp := fun vs H Q E => ∃ v, vs = [v] ∧ Kn K H v ∧ (withinV 1 3 v = true → Q .non H) ∧ (withinV 1 3 v = false → badV K H E "BadDimension" "value" v)
def sp_corners (K : PySem.W.Frag) : Sp := fun vs H Q E => ∃ v, vs = [v] ∧ Kn K H v ∧ (∀ d, v = .int d → Dim d → retD K H Q (.tuple ((cornD d).map tupI))) ∧ (withinV 1 3 v = false → badV K H E "BadDimension" "value" v)
def sp_edges (K : PySem.W.Frag) : Sp := fun vs H Q E => ∃ v, vs = [v] ∧ Kn K H v ∧ (∀ d, v = .int d → Dim d → retD K H Q (.tuple ((edgeD d).map seg))) ∧ (withinV 1 3 v = false → badV K H E "BadDimension" "value" v)
def sp_opposite (K : PySem.W.Frag) : Sp := fun vs H Q E => ∃ v w, vs = [v, w] ∧ Kn K H v ∧ Kn K H w ∧ (∀ d at_, v = .int d → w = .int at_ → Dim d → 0 ≤ at_ → at_ < widD d → retD K H Q (seg (oppL d at_))) ∧
  (withinV 1 3 v = false → badV K H E "BadDimension" "value" v) ∧ (∀ d, v = .int d → Dim d → withinV 0 (widD d - 1) w = false → badV K H E "BadNumber" "part" (.str "at"))
/-! ### the pen -/
def LIM : Int := 1000000
structure Pen (H : Hp) (p c : Addr) (n : Int) : Prop where
  ex : ∃ (ns : List Int) (at_ left : Int), H p = some (.lst [.ref c, .int at_, .int left]) ∧ H c = some (.lst (ns.map V.int)) ∧ 0 ≤ at_ ∧ at_ ≤ n ∧ 0 ≤ left ∧ ns.length ≤ 63
def sp_law_pen (K : PySem.W.Frag) : Sp := fun vs H Q _ => ∃ (a : Addr) (ns : List Int), vs = [.ref a] ∧ SqL K H a (ns.map V.int) ∧ ns.length ≤ 63 ∧ ∀ p c H', H p = none → H c = none → Same H H' → Pen H' p c 0 → Q (.ref p) H'
def sp_law_draw (K : PySem.W.Frag) : Sp := fun vs H Q _ => ∃ p c m n, vs = [.ref p, .int m] ∧ Pen H p c n ∧ n + 1 ≤ LIM ∧ 0 < m ∧ m < 1073741824 ∧
  ∀ r H', 0 ≤ r → r < m → Kp p H H' → Pen H' p c (n + 1) → Q (.int r) H'
def sp_law_pick (K : PySem.W.Frag) : Sp := fun vs H Q _ => ∃ p c b xs n, vs = [.ref p, .ref b] ∧ Pen H p c n ∧ n + 1 ≤ LIM ∧ xs ≠ [] ∧ xs.length ≤ 1000 ∧ b ≠ p ∧ Sq K H b xs ∧ ∀ x H', x ∈ xs → Kp p H H' → Pen H' p c (n + 1) → Q x H'
/-! ### the law's own numbers -/
def gI (l : List Int) (i : Nat) : Int := l.getD i 0
def speedL (m p : List Int) : List Int := match p with
  | [_] => [gI m 0]
  | [x, y] => [gI m 0 - gI m 2 * y, gI m 1 + gI m 2 * x]
  | [x, y, z] => [gI m 0 + gI m 4 * z - gI m 5 * y, gI m 1 + gI m 5 * x - gI m 3 * z, gI m 2 + gI m 3 * y - gI m 4 * x]
  | _ => []
def unitsL (w : Nat) : List (List Int) := (List.range w).map fun s => (List.range w).map fun t => if t = s then 1 else 0
def small (l : List Int) : Prop := ∀ x ∈ l, -1000 ≤ x ∧ x ≤ 1000
def sp_law_speed (K : PySem.W.Frag) : Sp := fun vs H Q _ => ∃ (a b : Addr) (m p : List Int), vs = [.ref a, .ref b] ∧ Sq K H a (m.map V.int) ∧ Sq K H b (p.map V.int) ∧ small m ∧ small p ∧
  ((p.length = 1 ∧ 1 ≤ m.length) ∨ (p.length = 2 ∧ 3 ≤ m.length) ∨ (p.length = 3 ∧ 6 ≤ m.length)) ∧ ∀ r H', Same H H' → SqL K H' r ((speedL m p).map V.int) → Q (.ref r) H'
def sp_law_units (K : PySem.W.Frag) : Sp := fun vs H Q _ => ∃ w : Nat, vs = [.int w] ∧ w ≤ 6 ∧ retD K H Q (rowsD (unitsL w))
def rodL (d : Nat) (a b : List Int) : List Int := (unitsL (d * (d + 1) / 2)).map fun u => ((List.range d).map fun i => (gI b i - gI a i) * gI (speedL u a) i).sum
def hingeL (d : Nat) (ps : List (List Int)) : List (List Int) := ps.flatMap fun p => (List.range d).map fun i => (unitsL (d * (d + 1) / 2)).map fun u => gI (speedL u p) i
def retL (K : PySem.W.Frag) (H : Hp) (Q : VK) (ds : List PyData) : Prop := ∀ a xs H', Same H H' → H a = none → H' a = some (.lst xs) → DpAll K (nw H H') xs ds → Q (.ref a) H'
def sp_law_asks (K : PySem.W.Frag) : Sp := fun vs H Q _ => ∃ (d : Nat) (z : Str) (v : V) (ps : List (List Int)), vs = [.int d, .str z, v] ∧ 1 ≤ d ∧ d ≤ 3 ∧ Dp K H v (seg ps) ∧ (∀ p ∈ ps, p.length = d ∧ ∀ x ∈ p, 0 ≤ x ∧ x ≤ 1) ∧
  ((z = "rod" ∧ (∃ a b, ps = [a, b] ∧ retD K H Q (rowsD [rodL d a b]))) ∨ (z = "hinge" ∧ ps.length ≤ 2 ∧ retL K H Q ((hingeL d ps).map fun r => .list (r.map .int))))
/-- the rows, the columns found, the last pivot -/
structure Piv where
  rows : List (List Int)
  found : List Nat
  last : Int
def lowL (w c : Nat) (last : Int) (top low : List Int) : List Int := (List.range w).map fun s => (gI top c * gI low s - gI low c * gI top s).fdiv last
def spotsL (s : Piv) (c : Nat) : List Nat := (List.range (s.rows.length - s.found.length)).filterMap fun i => if gI (s.rows.getD (s.found.length + i) []) c = 0 then none else some (s.found.length + i)
def pivC (w : Nat) (s : Piv) (c : Nat) : Piv := match spotsL s c with
  | [] => s
  | i :: _ =>
    let top := s.rows.getD i []
    let left := s.rows.eraseIdx i
    { rows := left.take s.found.length ++ top :: (left.drop s.found.length).map (lowL w c s.last top), found := s.found ++ [c], last := gI top c }
def pivS (w : Nat) (rs : List (List Int)) : Nat → Piv
  | 0 => ⟨rs, [], 1⟩
  | k + 1 => pivC w (pivS w rs k) k
def okS (w : Nat) (s : Piv) : Bool := s.rows.all (fun r => decide (r.length = w) && r.all fun x => decide (-1000 ≤ x) && decide (x ≤ 1000)) && (decide (s.last ≠ 0) && (decide (-1000 ≤ s.last) && (decide (s.last ≤ 1000) && (decide (s.found.length ≤ s.rows.length) && decide (s.rows.length ≤ 100)))))
def okP (w : Nat) (rs : List (List Int)) : Bool := (List.range (w + 1)).all fun k => okS w (pivS w rs k)
def natI (l : List Nat) : List V := l.map fun (i : Nat) => V.int (i : Int)
def sp_law_pivots (K : PySem.W.Frag) : Sp := fun vs H Q _ => ∃ (v : V) (w : Nat) (rs : List (List Int)), vs = [v, .int w] ∧ w ≤ 100 ∧ Dp K H v (rowsD rs) ∧ okP w rs = true ∧
  ∀ r H', Same H H' → H' r = some (.lst (natI (pivS w rs w).found)) → Q (.ref r) H'
def sp_law_rank (K : PySem.W.Frag) : Sp := fun vs H Q _ => ∃ (v : V) (w : Nat) (rs : List (List Int)), vs = [v] ∧ w ≤ 100 ∧ Dp K H v (rowsD rs) ∧ rs ≠ [] ∧ (rs.getD 0 []).length = w ∧ okP w rs = true ∧
  ∀ H', Same H H' → Q (.int (((pivS w rs w).found.length : Nat) : Int)) H'
def tupD : Nat → PyData → Bool
  | 0, _ => false
  | _ + 1, .int _ => true
  | n + 1, .tuple ds => decide (ds.length ≤ 1000) && ds.all (tupD n)
  | _, _ => false
def sp_law_same (K : PySem.W.Frag) : Nat → Sp
  | 0 => fun _ _ _ _ => False
  | n + 1 => fun vs H Q _ => ∃ v w d, vs = [v, w] ∧ Dp K H v d ∧ Dp K H w d ∧ tupD (n + 1) d = true ∧ ∀ H', Same H H' → Q (.bl true) H'
def sp_law_corners (K : PySem.W.Frag) : Sp := fun vs H Q _ => ∃ d, vs = [.int d] ∧ Dim d ∧ retD K H Q (.list ((cornD d).map tupI))
def sp_law_edges (K : PySem.W.Frag) : Sp := fun vs H Q _ => ∃ d, vs = [.int d] ∧ Dim d ∧ retD K H Q (.list ((edgeD d).map seg))
def sp_law_opposite (K : PySem.W.Frag) : Sp := fun vs H Q _ => ∃ d at_, vs = [.int d, .int at_] ∧ Dim d ∧ 0 ≤ at_ ∧ at_ < widD d ∧ retD K H Q (seg (oppL d at_))
def sp_law_right (K : PySem.W.Frag) : Sp := fun vs H Q _ => ∃ v d, vs = [v, .int d] ∧ Dim d ∧ ∀ H', Same H H' → Q (.bl true) H'
/-- all but the pen and the tables stands -/
def KpT (p : Addr) (H H' : Hp) : Prop := ∀ b o, b ≠ p → (∀ ps, o ≠ .tbl ps) → H b = some o → H' b = some o
def sp_law_refused (K : PySem.W.Frag) : Sp := fun vs H Q _ => ∃ p c n, vs = [.ref p] ∧ Pen H p c n ∧ n + 3 ≤ LIM ∧ LamX.Tabs (tabs K) H ∧ ∀ H', KpT p H H' → LamX.Tabs (tabs K) H' → Pen H' p c (n + 3) → Q (.bl true) H'
def sp_law (K : PySem.W.Frag) : Sp := fun vs H Q _ => ∃ (a : Addr) (ns : List Int), vs = [.ref a] ∧ SqL K H a (ns.map V.int) ∧ ns.length ≤ 63 ∧ LamX.Tabs (tabs K) H ∧ ∀ H', Q (.bl true) H'
/-- what is heard -/
def TT_law_heard (K : PySem.W.Frag) : Hear := fun tl H Q => ∀ (H1 : Hp) (s : Addr), H s = none → Same H H1 → H1 s = some (.lst []) →
  tl (fun cls d H' => H' s = some (.lst []) ∧ ∃ dd x f v, d = some dd ∧ cls = .ref (He.ga K x) ∧ H' dd = some (.xd [(f, v)]) ∧ ((x = "BadDimension" ∧ f = "value") ∨ (x = "BadNumber" ∧ f = "part")) ∧
    ∀ p G, Kp s H' G → H' p = none → G p = some (.tup [.str x, v]) → Q (.ref p) G) H1 (fun _ H' => Q .non H')
end GW

namespace GW
section
open PySem PyProof.Rows L2
def top (i : Nat) : Stmt := PySem.Challenge.pw_givesway_k33_simplex_edges_and_opposites.main.body.getD i (.Pass ⟨0, 0, 0, 0⟩)
abbrev s_is_integer : Stmt := top 1
abbrev n_is_integer : List Str := ["value"]
theorem sc_is_integer : FnScope n_is_integer ["value"] (defScope s_is_integer) := ⟨rfl, rfl, rfl, by decide +kernel, rfl, by decide +kernel, by decide +kernel⟩
def t_is_integer (K : PySem.W.Frag) : TS := (tRet (mAnd (tCB (rIs1 K .int) (tCons (mVar 0) (tCons (tC (.ty "int")) tNil))) (mNot (tCB (rIs1 K .bl) (tCons (mVar 0) (tCons (tC (.ty "bool")) tNil))))))
abbrev s_BadDimension : Stmt := (clsBody (top 5)).getD 0 (.Pass ⟨0, 0, 0, 0⟩)
abbrev n_BadDimension : List Str := ["self", "value"]
theorem sc_BadDimension : FnScope n_BadDimension ["self", "value"] (defScope s_BadDimension) := ⟨rfl, rfl, rfl, by decide +kernel, rfl, by decide +kernel, by decide +kernel⟩
def t_BadDimension (K : PySem.W.Frag) : TS := (tOst K "value" (mVar 0) (mVar 1))
abbrev s_BadNumber : Stmt := (clsBody (top 8)).getD 0 (.Pass ⟨0, 0, 0, 0⟩)
abbrev n_BadNumber : List Str := ["self", "part"]
theorem sc_BadNumber : FnScope n_BadNumber ["self", "part"] (defScope s_BadNumber) := ⟨rfl, rfl, rfl, by decide +kernel, rfl, by decide +kernel, by decide +kernel⟩
def t_BadNumber (K : PySem.W.Frag) : TS := (tOst K "part" (mVar 0) (mVar 1))
abbrev s_width_of : Stmt := top 12
abbrev n_width_of : List Str := ["dimension"]
theorem sc_width_of : FnScope n_width_of ["dimension"] (defScope s_width_of) := ⟨rfl, rfl, rfl, by decide +kernel, rfl, by decide +kernel, by decide +kernel⟩
def t_width_of (K : PySem.W.Frag) : TS := (tRet (tOp oDiv (tOp (oMulU K) (mVar 0) (tOp (oAdd K) (mVar 0) (tC (.int 1)))) (tC (.int 2))))
abbrev s_corners_in : Stmt := top 17
abbrev n_corners_in : List Str := ["dimension", "found", "at", "spot"]
theorem sc_corners_in : FnScope n_corners_in ["dimension"] (defScope s_corners_in) := ⟨rfl, rfl, rfl, by decide +kernel, rfl, by decide +kernel, by decide +kernel⟩
def t_corners_in (K : PySem.W.Frag) : TS := (tSeq (tAsg (tLst (tCons (tOp (oMulU K) (tTup (tCons (tC (.int 0)) tNil)) (mVar 0)) tNil)) (gName 1))
    (tSeq (tFor (iRng1 (tCons (mVar 0) tNil)) (gName 2) (tDrop (tBM K "list" rAppend (mVar 1) (tCons (tCB (rTupU K) (tCons (tLc (iRng1 (tCons (mVar 0) tNil)) (gName 3) tYes (tCB rIntU (tCons (tOp (oEq K) (mVar 3) (mVar 2)) tNil)) [3]) tNil)) tNil))))
    (tRet (tCB (rTupU K) (tCons (mVar 1) tNil)))))
abbrev s_law_pen : Stmt := top 24
abbrev n_law_pen : List Str := ["script", "cell"]
theorem sc_law_pen : FnScope n_law_pen ["script"] (defScope s_law_pen) := ⟨rfl, rfl, rfl, by decide +kernel, rfl, by decide +kernel, by decide +kernel⟩
def t_law_pen (K : PySem.W.Frag) : TS := (tRet (tLst (tCons (tLc (iU K (tSl (oSl K) (mVar 0) tNoPart (mPart (tC (.int 60))))) (gName 1) tYes (tCB rIntU (tCons (mVar 1) tNil)) [1]) (tCons (tC (.int 0)) (tCons (tC (.int 0)) tNil)))))
abbrev s_law_draw : Stmt := top 25
abbrev n_law_draw : List Str := ["pen", "many", "rest", "at", "cell", "mixed"]
theorem sc_law_draw : FnScope n_law_draw ["pen", "many"] (defScope s_law_draw) := ⟨rfl, rfl, rfl, by decide +kernel, rfl, by decide +kernel, by decide +kernel⟩
def t_law_draw (K : PySem.W.Frag) : TS := (tSeq (tIfS (mTest (tOp oGt (tOp (oIx K) (mVar 0) (tC (.int 2))) (tC (.int 0)))) (tSeq (tAsg (tOp (oIx K) (mVar 0) (tC (.int 2))) (gName 2))
    (tSeq (tAsg (tOp oDiv (tCB rIntU (tCons (mVar 2) tNil)) (mVar 1)) (gSub (mVar 0) (tC (.int 2)) (oSet K)))
    (tRet (tOp oMod (tCB rIntU (tCons (mVar 2) tNil)) (mVar 1))))) tNext)
    (tSeq (tAsg (tOp (oIx K) (mVar 0) (tC (.int 1))) (gName 3))
    (tSeq (tAsg (tOp (oAdd K) (mVar 3) (tC (.int 1))) (gSub (mVar 0) (tC (.int 1)) (oSet K)))
    (tSeq (tAsg (tOp (oAdd K) (tOp (oMulU K) (tC (.int 50093)) (mVar 3)) (tC (.int 7213))) (gName 4))
    (tSeq (tIfS (mTest (tOp (oNe K) (tOp (oIx K) (mVar 0) (tC (.int 0))) (tLst tNil))) (tAsg (tOp (oIx K) (tOp (oIx K) (mVar 0) (tC (.int 0))) (tOp oMod (tCB rIntU (tCons (mVar 3) tNil)) (tCB (rLenU K) (tCons (tOp (oIx K) (mVar 0) (tC (.int 0))) tNil)))) (gName 4)) tNext)
    (tSeq (tIfS (tAnd (mTest (tOp oLt (mVar 3) (tCB (rLenU K) (tCons (tOp (oIx K) (mVar 0) (tC (.int 0))) tNil)))) (mTest (tOp oGe (tCB rAbsU (tCons (mVar 4) tNil)) (tOp oPow (tC (.int 10)) (tC (.int 18)))))) (tSeq (tAsg (tOp (oAdd K) (tOp (oMulU K) (tC (.int 2)) (tOp oSub (tCB rAbsU (tCons (mVar 4) tNil)) (tOp oPow (tC (.int 10)) (tC (.int 18))))) (tCB rIntU (tCons (tOp oLt (mVar 4) (tC (.int 0))) tNil))) (gName 2))
    (tSeq (tAsg (tOp oDiv (tCB rIntU (tCons (mVar 2) tNil)) (mVar 1)) (gSub (mVar 0) (tC (.int 2)) (oSet K)))
    (tRet (tOp oMod (tCB rIntU (tCons (mVar 2) tNil)) (mVar 1))))) tNext)
    (tSeq (tAsg (tOp oMod (tCB rIntU (tCons (tOp oPow (tOp (oAdd K) (tOp (oAdd K) (tOp oMod (tCB rIntU (tCons (mVar 4) tNil)) (tC (.int 2147483587))) (tOp (oMulU K) (tC (.int 50093)) (mVar 3))) (tC (.int 7213))) (tC (.int 5))) tNil)) (tC (.int 2147483549))) (gName 5))
    (tSeq (tAsg (tOp oMod (tCB rIntU (tCons (tOp oPow (tOp (oAdd K) (tOp (oAdd K) (tOp (oMulU K) (mVar 5) (tOp (oAdd K) (tOp (oMulU K) (tC (.int 2)) (mVar 3)) (tC (.int 7213)))) (tOp (oMulU K) (tOp (oMulU K) (tC (.int 33191)) (mVar 3)) (mVar 3))) (tC (.int 50093))) (tC (.int 3))) tNil)) (tC (.int 2147483647))) (gName 5))
    (tRet (tOp oMod (tCB rIntU (tCons (tOp oDiv (mVar 5) (tC (.int 64))) tNil)) (mVar 1)))))))))))
abbrev s_law_speed : Stmt := top 27
abbrev n_law_speed : List Str := ["motion", "point", "first", "second"]
theorem sc_law_speed : FnScope n_law_speed ["motion", "point"] (defScope s_law_speed) := ⟨rfl, rfl, rfl, by decide +kernel, rfl, by decide +kernel, by decide +kernel⟩
def t_law_speed (K : PySem.W.Frag) : TS := (tSeq (tIfS (mTest (tOp (oEq K) (tCB (rLenU K) (tCons (mVar 1) tNil)) (tC (.int 1)))) (tRet (tLst (tCons (tOp (oIx K) (mVar 0) (tC (.int 0))) tNil))) tNext)
    (tSeq (tIfS (mTest (tOp (oEq K) (tCB (rLenU K) (tCons (mVar 1) tNil)) (tC (.int 2)))) (tRet (tLst (tCons (tOp oSub (tOp (oIx K) (mVar 0) (tC (.int 0))) (tOp (oMulU K) (tOp (oIx K) (mVar 0) (tC (.int 2))) (tOp (oIx K) (mVar 1) (tC (.int 1))))) (tCons (tOp (oAdd K) (tOp (oIx K) (mVar 0) (tC (.int 1))) (tOp (oMulU K) (tOp (oIx K) (mVar 0) (tC (.int 2))) (tOp (oIx K) (mVar 1) (tC (.int 0))))) tNil)))) tNext)
    (tSeq (tAsg (tOp oSub (tOp (oAdd K) (tOp (oIx K) (mVar 0) (tC (.int 0))) (tOp (oMulU K) (tOp (oIx K) (mVar 0) (tC (.int 4))) (tOp (oIx K) (mVar 1) (tC (.int 2))))) (tOp (oMulU K) (tOp (oIx K) (mVar 0) (tC (.int 5))) (tOp (oIx K) (mVar 1) (tC (.int 1))))) (gName 2))
    (tSeq (tAsg (tOp oSub (tOp (oAdd K) (tOp (oIx K) (mVar 0) (tC (.int 1))) (tOp (oMulU K) (tOp (oIx K) (mVar 0) (tC (.int 5))) (tOp (oIx K) (mVar 1) (tC (.int 0))))) (tOp (oMulU K) (tOp (oIx K) (mVar 0) (tC (.int 3))) (tOp (oIx K) (mVar 1) (tC (.int 2))))) (gName 3))
    (tRet (tLst (tCons (mVar 2) (tCons (mVar 3) (tCons (tOp oSub (tOp (oAdd K) (tOp (oIx K) (mVar 0) (tC (.int 2))) (tOp (oMulU K) (tOp (oIx K) (mVar 0) (tC (.int 3))) (tOp (oIx K) (mVar 1) (tC (.int 1))))) (tOp (oMulU K) (tOp (oIx K) (mVar 0) (tC (.int 4))) (tOp (oIx K) (mVar 1) (tC (.int 0))))) tNil)))))))))
abbrev s_law_units : Stmt := top 28
abbrev n_law_units : List Str := ["width", "spot", "at"]
theorem sc_law_units : FnScope n_law_units ["width"] (defScope s_law_units) := ⟨rfl, rfl, rfl, by decide +kernel, rfl, by decide +kernel, by decide +kernel⟩
def t_law_units (K : PySem.W.Frag) : TS := (tRet (tLc (iRng1 (tCons (mVar 0) tNil)) (gName 1) tYes (tLc (iRng1 (tCons (mVar 0) tNil)) (gName 2) tYes (tCB rIntU (tCons (tOp (oEq K) (mVar 2) (mVar 1)) tNil)) [2]) [1]))
abbrev s_law_pivots : Stmt := top 30
abbrev n_law_pivots : List Str := ["rows", "width", "left", "found", "last", "column", "spots", "top", "at", "low", "row", "spot"]
theorem sc_law_pivots : FnScope n_law_pivots ["rows", "width"] (defScope s_law_pivots) := ⟨rfl, rfl, rfl, by decide +kernel, rfl, by decide +kernel, by decide +kernel⟩
def t_law_pivots (K : PySem.W.Frag) : TS := (tSeq (tAsg (tTup (tCons (tLc (iU K (mVar 0)) (gName 10) tYes (tCB (rListU K) (tCons (mVar 10) tNil)) [10]) (tCons (tLst tNil) (tCons (tC (.int 1)) tNil)))) (gTup K 3 (gCons (gName 2) (gCons (gName 3) (gCons (gName 4) gNil)))))
    (tSeq (tFor (iRng1 (tCons (mVar 1) tNil)) (gName 5) (tSeq (tAsg (tLc (iRng2 (tCons (tCB (rLenU K) (tCons (mVar 3) tNil)) (tCons (tCB (rLenU K) (tCons (mVar 2) tNil)) tNil))) (gName 8) (mTest (tOp (oNe K) (tOp (oIx K) (tOp (oIx K) (mVar 2) (mVar 8)) (mVar 5)) (tC (.int 0)))) (mVar 8) [8]) (gName 6))
    (tIfS (mTest (tOp (oNe K) (mVar 6) (tLst tNil))) (tSeq (tAsg (tBM K "list" rPopAt (mVar 2) (tCons (tOp (oIx K) (mVar 6) (tC (.int 0))) tNil)) (gName 7))
    (tSeq (tFor (iRng2 (tCons (tCB (rLenU K) (tCons (mVar 3) tNil)) (tCons (tCB (rLenU K) (tCons (mVar 2) tNil)) tNil))) (gName 8) (tSeq (tAsg (tOp (oIx K) (mVar 2) (mVar 8)) (gName 9))
    (tAsg (tLc (iRng1 (tCons (mVar 1) tNil)) (gName 11) tYes (tOp oDivN (tOp oSub (tOp (oMulU K) (tOp (oIx K) (mVar 7) (mVar 5)) (tOp (oIx K) (mVar 9) (mVar 11))) (tOp (oMulU K) (tOp (oIx K) (mVar 9) (mVar 5)) (tOp (oIx K) (mVar 7) (mVar 11)))) (mVar 4)) [11]) (gSub (mVar 2) (mVar 8) (oSet K)))))
    (tSeq (tDrop (tBM K "list" rInsert (mVar 2) (tCons (tCB (rLenU K) (tCons (mVar 3) tNil)) (tCons (mVar 7) tNil))))
    (tSeq (tAsg (tOp (oIx K) (mVar 7) (mVar 5)) (gName 4))
    (tDrop (tBM K "list" rAppend (mVar 3) (tCons (mVar 5) tNil))))))) tNext)))
    (tRet (mVar 3))))
abbrev s_law_heard : Stmt := top 32
abbrev n_law_heard : List Str := ["ask", "caught", "some", "error"]
theorem sc_law_heard : FnScope n_law_heard ["ask"] (defScope s_law_heard) := ⟨rfl, rfl, rfl, by decide +kernel, rfl, by decide +kernel, by decide +kernel⟩
def t_law_heard (K : PySem.W.Frag) (f c' : Addr) (q : Str) (T : XK → Hp → VK → Prop) : TS := (tSeq (tPar 1 2 (tCons (tC .non) (tCons (tLst tNil) tNil)))
    (tSeq (fun D σ H => (fun W : WX => (tDrop (mAct 0 f c' q T W))) (wKept K (.ref (He.ga K "GiveError")) 3 (fun a cls d => (tAsg (mVar 3) (gName 1))) (fun _ _ _ _ => False) D) D σ H)
    (tSeq (tIfS (mTest (tOp (oIs false) (mVar 1) (tC .non))) (tRet (tC .non)) tNext)
    (tSeq (tIfS (mTest (tCB (rIsX K) (tCons (mVar 1) (tCons (tC (.ref (He.ga K "BadDimension"))) tNil)))) (tDrop (tBM K "list" rAppend (mVar 2) (tCons (tTup (tCons (tC (.str "BadDimension")) (tCons (mXf K "value" (mVar 1)) tNil))) tNil))) tNext)
    (tSeq (tIfS (mTest (tCB (rIsX K) (tCons (mVar 1) (tCons (tC (.ref (He.ga K "BadNumber"))) tNil)))) (tDrop (tBM K "list" rAppend (mVar 2) (tCons (tTup (tCons (tC (.str "BadNumber")) (tCons (mXf K "part" (mVar 1)) tNil))) tNil))) tNext)
    (tSeq (tIfS (mTest (tCB (rIsX K) (tCons (mVar 1) (tCons (tC (.ref (He.ga K "BadPlacement"))) tNil)))) (tDrop (tBM K "list" rAppend (mVar 2) (tCons (tTup (tCons (tC (.str "BadPlacement")) (tCons (mXf K "part" (mVar 1)) tNil))) tNil))) tNext)
    (tSeq (tIfS (mTest (tCB (rIsX K) (tCons (mVar 1) (tCons (tC (.ref (He.ga K "BadStructure"))) tNil)))) (tDrop (tBM K "list" rAppend (mVar 2) (tCons (tTup (tCons (tC (.str "BadStructure")) (tCons (mXf K "part" (mVar 1)) tNil))) tNil))) tNext)
    (tSeq (tIfS (mTest (tCB (rIsX K) (tCons (mVar 1) (tCons (tC (.ref (He.ga K "TooMany"))) tNil)))) (tDrop (tBM K "list" rAppend (mVar 2) (tCons (tTup (tCons (tC (.str "TooMany")) (tCons (mXf K "what" (mVar 1)) (tCons (mXf K "most" (mVar 1)) tNil)))) tNil))) tNext)
    (tRet (tIf (mTest (tOp (oEq K) (tCB (rLenU K) (tCons (mVar 2) tNil)) (tC (.int 1)))) (tOp (oIx K) (mVar 2) (tC (.int 0))) (tTup (tCons (tC (.str "odd")) tNil))))))))))))
abbrev s_law_corners : Stmt := top 34
abbrev n_law_corners : List Str := ["dimension", "at", "spot"]
theorem sc_law_corners : FnScope n_law_corners ["dimension"] (defScope s_law_corners) := ⟨rfl, rfl, rfl, by decide +kernel, rfl, by decide +kernel, by decide +kernel⟩
def t_law_corners (K : PySem.W.Frag) : TS := (tRet (tOp (oAdd K) (tLst (tCons (tOp (oMulU K) (tTup (tCons (tC (.int 0)) tNil)) (mVar 0)) tNil)) (tLc (iRng1 (tCons (mVar 0) tNil)) (gName 1) tYes (tCB (rTupU K) (tCons (tLc (iRng1 (tCons (mVar 0) tNil)) (gName 2) tYes (tCB rIntU (tCons (tOp (oEq K) (mVar 1) (mVar 2)) tNil)) [2]) tNil)) [1])))
abbrev s_is_within : Stmt := top 2
abbrev n_is_within : List Str := ["value", "least", "most"]
theorem sc_is_within : FnScope n_is_within ["value", "least", "most"] (defScope s_is_within) := ⟨rfl, rfl, rfl, by decide +kernel, rfl, by decide +kernel, by decide +kernel⟩
def t_is_within (K : PySem.W.Frag) : TS := (tRet (mAnd (tCall (sp_is_integer K) [] E0 (tCons (mVar 0) tNil)) (mChain oLe oLe (mVar 1) (mVar 0) (mVar 2))))
abbrev s_edges_in : Stmt := top 18
abbrev n_edges_in : List Str := ["dimension", "told", "one", "other"]
theorem sc_edges_in : FnScope n_edges_in ["dimension"] (defScope s_edges_in) := ⟨rfl, rfl, rfl, by decide +kernel, rfl, by decide +kernel, by decide +kernel⟩
def t_edges_in (K : PySem.W.Frag) : TS := (tSeq (tAsg (tCall (sp_corners_in K) [] E0 (tCons (mVar 0) tNil)) (gName 1))
    (tRet (tCB (rTupU K) (tCons (tLc (iU K (tOp (oIxI K) (tC (.ref (He.ga K "ENDS"))) (mVar 0))) (gTup K 2 (gCons (gName 2) (gCons (gName 3) gNil))) tYes (tTup (tCons (tOp (oIx K) (mVar 1) (mVar 2)) (tCons (tOp (oIx K) (mVar 1) (mVar 3)) tNil))) [2, 3]) tNil))))
abbrev s_law_pick : Stmt := top 26
abbrev n_law_pick : List Str := ["pen", "some"]
theorem sc_law_pick : FnScope n_law_pick ["pen", "some"] (defScope s_law_pick) := ⟨rfl, rfl, rfl, by decide +kernel, rfl, by decide +kernel, by decide +kernel⟩
def t_law_pick (K : PySem.W.Frag) : TS := (tRet (tOp (oIx K) (mVar 1) (tCall (sp_law_draw K) [] E0 (tCons (mVar 0) (tCons (tCB (rLenU K) (tCons (mVar 1) tNil)) tNil)))))
abbrev s_law_asks : Stmt := top 29
abbrev n_law_asks : List Str := ["dimension", "kind", "spot", "units", "ahead", "found", "point", "at", "unit"]
theorem sc_law_asks : FnScope n_law_asks ["dimension", "kind", "spot"] (defScope s_law_asks) := ⟨rfl, rfl, rfl, by decide +kernel, rfl, by decide +kernel, by decide +kernel⟩
def t_law_asks (K : PySem.W.Frag) : TS := (tSeq (tAsg (tCall (sp_law_units K) [] E0 (tCons (tOp oDiv (tOp (oMulU K) (mVar 0) (tOp (oAdd K) (mVar 0) (tC (.int 1)))) (tC (.int 2))) tNil)) (gName 3))
    (tSeq (tIfS (mTest (tOp (oEq K) (mVar 1) (tC (.str "weld")))) (tRet (mVar 3)) tNext)
    (tSeq (tIfS (mTest (tOp (oEq K) (mVar 1) (tC (.str "rod")))) (tSeq (tAsg (tLc (iRng1 (tCons (mVar 0) tNil)) (gName 7) tYes (tOp oSub (tOp (oIx K) (tOp (oIx K) (mVar 2) (tC (.int 1))) (mVar 7)) (tOp (oIx K) (tOp (oIx K) (mVar 2) (tC (.int 0))) (mVar 7))) [7]) (gName 4))
    (tRet (tLst (tCons (tLc (iU K (mVar 3)) (gName 8) tYes (tCB (rSumU K) (tCons (tLc (iRng1 (tCons (mVar 0) tNil)) (gName 7) tYes (tOp (oMulU K) (tOp (oIx K) (mVar 4) (mVar 7)) (tOp (oIx K) (tCall (sp_law_speed K) [] E0 (tCons (mVar 8) (tCons (tOp (oIx K) (mVar 2) (tC (.int 0))) tNil))) (mVar 7))) [7]) tNil)) [8]) tNil)))) tNext)
    (tSeq (tAsg (tLst tNil) (gName 5))
    (tSeq (tFor (iU K (mVar 2)) (gName 6) (tAsg (tOp (oAdd K) (mVar 5) (tLc (iRng1 (tCons (mVar 0) tNil)) (gName 7) tYes (tLc (iU K (mVar 3)) (gName 8) tYes (tOp (oIx K) (tCall (sp_law_speed K) [] E0 (tCons (mVar 8) (tCons (mVar 6) tNil))) (mVar 7)) [8]) [7])) (gName 5)))
    (tRet (mVar 5)))))))
abbrev s_law_rank : Stmt := top 31
abbrev n_law_rank : List Str := ["rows"]
theorem sc_law_rank : FnScope n_law_rank ["rows"] (defScope s_law_rank) := ⟨rfl, rfl, rfl, by decide +kernel, rfl, by decide +kernel, by decide +kernel⟩
def t_law_rank (K : PySem.W.Frag) : TS := (tRet (tIf (mTest (tOp (oNe K) (mVar 0) (tLst tNil))) (tCB (rLenU K) (tCons (tCall (sp_law_pivots K) [] E0 (tCons (mVar 0) (tCons (tCB (rLenU K) (tCons (tOp (oIx K) (mVar 0) (tC (.int 0))) tNil)) tNil))) tNil)) (tC (.int 0))))
abbrev s_law_edges : Stmt := top 35
abbrev n_law_edges : List Str := ["dimension", "ends", "told", "one", "other"]
theorem sc_law_edges : FnScope n_law_edges ["dimension"] (defScope s_law_edges) := ⟨rfl, rfl, rfl, by decide +kernel, rfl, by decide +kernel, by decide +kernel⟩
def t_law_edges (K : PySem.W.Frag) : TS := (tSeq (tAsg (tOp (oIx K) (tLst (tCons (tLst (tCons (tTup (tCons (tC (.int 0)) (tCons (tC (.int 1)) tNil))) tNil)) (tCons (tLst (tCons (tTup (tCons (tC (.int 0)) (tCons (tC (.int 1)) tNil))) (tCons (tTup (tCons (tC (.int 0)) (tCons (tC (.int 2)) tNil))) (tCons (tTup (tCons (tC (.int 1)) (tCons (tC (.int 2)) tNil))) tNil)))) (tCons (tLst (tCons (tTup (tCons (tC (.int 0)) (tCons (tC (.int 1)) tNil))) (tCons (tTup (tCons (tC (.int 0)) (tCons (tC (.int 2)) tNil))) (tCons (tTup (tCons (tC (.int 0)) (tCons (tC (.int 3)) tNil))) (tCons (tTup (tCons (tC (.int 1)) (tCons (tC (.int 2)) tNil))) (tCons (tTup (tCons (tC (.int 2)) (tCons (tC (.int 3)) tNil))) (tCons (tTup (tCons (tC (.int 3)) (tCons (tC (.int 1)) tNil))) tNil))))))) tNil)))) (tOp oSub (mVar 0) (tC (.int 1)))) (gName 1))
    (tSeq (tAsg (tCall (sp_law_corners K) [] E0 (tCons (mVar 0) tNil)) (gName 2))
    (tRet (tLc (iU K (mVar 1)) (gTup K 2 (gCons (gName 3) (gCons (gName 4) gNil))) tYes (tTup (tCons (tOp (oIx K) (mVar 2) (mVar 3)) (tCons (tOp (oIx K) (mVar 2) (mVar 4)) tNil))) [3, 4]))))
abbrev s_need_dimension : Stmt := top 14
abbrev n_need_dimension : List Str := ["value"]
theorem sc_need_dimension : FnScope n_need_dimension ["value"] (defScope s_need_dimension) := ⟨rfl, rfl, rfl, by decide +kernel, rfl, by decide +kernel, by decide +kernel⟩
def t_need_dimension (K : PySem.W.Frag) (E : XK) : TS := (tIfS (tNot (mTest (tCall (sp_is_within K) [] E0 (tCons (mVar 0) (tCons (tC (.int 1)) (tCons (tC (.int 3)) tNil)))))) (tRaise K "BadDimension" ["value"] (tCons (mVar 0) tNil) (fun cls d _ H => E cls d H)) tNext)
abbrev s_opposite_in : Stmt := top 19
abbrev n_opposite_in : List Str := ["dimension", "at", "told", "edge", "corner"]
theorem sc_opposite_in : FnScope n_opposite_in ["dimension", "at"] (defScope s_opposite_in) := ⟨rfl, rfl, rfl, by decide +kernel, rfl, by decide +kernel, by decide +kernel⟩
def t_opposite_in (K : PySem.W.Frag) : TS := (tSeq (tAsg (tCall (sp_edges_in K) [] E0 (tCons (mVar 0) tNil)) (gName 2))
    (tSeq (tIfS (mTest (tOp (oEq K) (mVar 0) (tC (.int 3)))) (tRet (tOp (oIx K) (tLc (iU K (mVar 2)) (gName 3) (tAnd (mTest (tOp (oInU K true) (tOp (oIx K) (mVar 3) (tC (.int 0))) (tOp (oIx K) (mVar 2) (mVar 1)))) (mTest (tOp (oInU K true) (tOp (oIx K) (mVar 3) (tC (.int 1))) (tOp (oIx K) (mVar 2) (mVar 1))))) (mVar 3) [3]) (tC (.int 0)))) tNext)
    (tRet (tCB (rTupU K) (tCons (tLc (iU K (tCall (sp_corners_in K) [] E0 (tCons (mVar 0) tNil))) (gName 4) (mTest (tOp (oInU K true) (mVar 4) (tOp (oIx K) (mVar 2) (mVar 1)))) (mVar 4) [4]) tNil)))))
abbrev s_law_opposite : Stmt := top 36
abbrev n_law_opposite : List Str := ["dimension", "at"]
theorem sc_law_opposite : FnScope n_law_opposite ["dimension", "at"] (defScope s_law_opposite) := ⟨rfl, rfl, rfl, by decide +kernel, rfl, by decide +kernel, by decide +kernel⟩
def t_law_opposite (K : PySem.W.Frag) : TS := (tSeq (tIfS (mTest (tOp (oEq K) (mVar 0) (tC (.int 3)))) (tRet (tOp (oIx K) (tCall (sp_law_edges K) [] E0 (tCons (tC (.int 3)) tNil)) (tOp (oIx K) (tLst (tCons (tC (.int 4)) (tCons (tC (.int 5)) (tCons (tC (.int 3)) (tCons (tC (.int 2)) (tCons (tC (.int 0)) (tCons (tC (.int 1)) tNil))))))) (mVar 1)))) tNext)
    (tRet (tOp (oIx K) (tLst (tCons (tTup tNil) (tCons (tSl (oSl K) (tTup (tCons (tTup (tCons (tC (.int 0)) (tCons (tC (.int 1)) tNil))) (tCons (tTup (tCons (tC (.int 1)) (tCons (tC (.int 0)) tNil))) (tCons (tTup (tCons (tC (.int 0)) (tCons (tC (.int 0)) tNil))) tNil)))) (mPart (mVar 1)) (mPart (tOp (oAdd K) (mVar 1) (tC (.int 1))))) tNil))) (tOp oSub (mVar 0) (tC (.int 1))))))
abbrev s_corners : Stmt := top 20
abbrev n_corners : List Str := ["dimension"]
theorem sc_corners : FnScope n_corners ["dimension"] (defScope s_corners) := ⟨rfl, rfl, rfl, by decide +kernel, rfl, by decide +kernel, by decide +kernel⟩
def t_corners (K : PySem.W.Frag) (E : XK) : TS := (tSeq (tDrop (tCall (sp_need_dimension K) [] E (tCons (mVar 0) tNil)))
    (tRet (tCall (sp_corners_in K) [] E0 (tCons (mVar 0) tNil))))
abbrev s_edges : Stmt := top 21
abbrev n_edges : List Str := ["dimension"]
theorem sc_edges : FnScope n_edges ["dimension"] (defScope s_edges) := ⟨rfl, rfl, rfl, by decide +kernel, rfl, by decide +kernel, by decide +kernel⟩
def t_edges (K : PySem.W.Frag) (E : XK) : TS := (tSeq (tDrop (tCall (sp_need_dimension K) [] E (tCons (mVar 0) tNil)))
    (tRet (tCall (sp_edges_in K) [] E0 (tCons (mVar 0) tNil))))
abbrev s_opposite : Stmt := top 22
abbrev n_opposite : List Str := ["dimension", "at"]
theorem sc_opposite : FnScope n_opposite ["dimension", "at"] (defScope s_opposite) := ⟨rfl, rfl, rfl, by decide +kernel, rfl, by decide +kernel, by decide +kernel⟩
def t_opposite (K : PySem.W.Frag) (E : XK) : TS := (tSeq (tDrop (tCall (sp_need_dimension K) [] E (tCons (mVar 0) tNil)))
    (tSeq (tIfS (tNot (mTest (tCall (sp_is_within K) [] E0 (tCons (mVar 1) (tCons (tC (.int 0)) (tCons (tOp oSub (tCall (sp_width_of K) [] E0 (tCons (mVar 0) tNil)) (tC (.int 1))) tNil)))))) (tRaise K "BadNumber" ["part"] (tCons (tC (.str "at")) tNil) (fun cls d _ H => E cls d H)) tNext)
    (tRet (tCall (sp_opposite_in K) [] E0 (tCons (mVar 0) (tCons (mVar 1) tNil))))))
abbrev s_law_same : Stmt := top 33
abbrev n_law_same : List Str := ["value", "due", "at"]
theorem sc_law_same : FnScope n_law_same ["value", "due"] (defScope s_law_same) := ⟨rfl, rfl, rfl, by decide +kernel, rfl, by decide +kernel, by decide +kernel⟩
def t_law_same (K : PySem.W.Frag) (n : Nat) : TS := (tSeq (tIfS (mTest (tCB (rIs1 K .int) (tCons (mVar 1) (tCons (tC (.ty "int")) tNil)))) (tRet (mAnd (tCB (rIs1 K .int) (tCons (mVar 0) (tCons (tC (.ty "int")) tNil))) (mAnd (mNot (tCB (rIs1 K .bl) (tCons (mVar 0) (tCons (tC (.ty "bool")) tNil)))) (tOp (oEq K) (mVar 0) (mVar 1))))) tNext)
    (tSeq (tIfS (tOr (tNot (mTest (tCB (rIs1 K .tup) (tCons (mVar 0) (tCons (tC (.ty "tuple")) tNil))))) (mTest (tOp (oNe K) (tCB (rLenU K) (tCons (mVar 0) tNil)) (tCB (rLenU K) (tCons (mVar 1) tNil))))) (tRet (tC (.bl false))) tNext)
    (tRet (tCB (rAllU K) (tCons (tLc (iRng1 (tCons (tCB (rLenU K) (tCons (mVar 1) tNil)) tNil)) (gName 2) tYes (tCall (sp_law_same K n) [] E0 (tCons (tOp (oIx K) (mVar 0) (mVar 2)) (tCons (tOp (oIx K) (mVar 1) (mVar 2)) tNil))) [2]) tNil)))))
abbrev s_law_right : Stmt := top 37
abbrev n_law_right : List Str := ["pen", "dimension", "width", "due", "told", "lines", "at", "spot", "hinge", "rest", "edge"]
theorem sc_law_right : FnScope n_law_right ["pen", "dimension"] (defScope s_law_right) := ⟨rfl, rfl, rfl, by decide +kernel, rfl, by decide +kernel, by decide +kernel⟩
def t_law_right (K : PySem.W.Frag) : TS := (tSeq (tPar 2 3 (tCons (tOp oDiv (tOp (oMulU K) (mVar 1) (tOp (oAdd K) (mVar 1) (tC (.int 1)))) (tC (.int 2))) (tCons (tCall (sp_law_edges K) [] E0 (tCons (mVar 1) tNil)) tNil)))
    (tSeq (tIfS (tOr (tNot (mTest (tCall (sp_law_same K 4) [] E0 (tCons (tCall (sp_corners K) [] E0 (tCons (mVar 1) tNil)) (tCons (tCB (rTupU K) (tCons (tCall (sp_law_corners K) [] E0 (tCons (mVar 1) tNil)) tNil)) tNil))))) (tNot (mTest (tCall (sp_law_same K 4) [] E0 (tCons (tCallP [0] (sp_edges K) E0 (tCons (mVar 1) tNil)) (tCons (tCB (rTupU K) (tCons (mVar 3) tNil)) tNil)))))) (tRet (tC (.bl false))) tNext)
    (tSeq (tAsg (tCall (sp_edges K) [] E0 (tCons (mVar 1) tNil)) (gName 4))
    (tSeq (tAsg (tLc (iU K (mVar 4)) (gName 10) tYes (tOp (oIx K) (tCall (sp_law_asks K) [] E0 (tCons (mVar 1) (tCons (tC (.str "rod")) (tCons (mVar 10) tNil)))) (tC (.int 0))) [10]) (gName 5))
    (tSeq (tIfS (tOr (mTest (tOp (oNe K) (tCall (sp_law_rank K) [] E0 (tCons (mVar 5) tNil)) (mVar 2))) (mTest (tOp (oNe K) (tCallP [0] (sp_corners K) E0 (tCons (mVar 1) tNil)) (tCall (sp_corners K) [] E0 (tCons (mVar 1) tNil))))) (tRet (tC (.bl false))) tNext)
    (tSeq (tFor (iRng1 (tCons (mVar 2) tNil)) (gName 6) (tSeq (tAsg (tCall (sp_opposite K) [] E0 (tCons (mVar 1) (tCons (mVar 6) tNil))) (gName 7))
    (tSeq (tIfS (tOr (tNot (mTest (tCall (sp_law_same K 4) [] E0 (tCons (mVar 7) (tCons (tCall (sp_law_opposite K) [] E0 (tCons (mVar 1) (tCons (mVar 6) tNil))) tNil))))) (mTest (tOp (oNe K) (tCallP [1, 0] (sp_opposite K) E0 (tCons (mVar 6) (tCons (mVar 1) tNil))) (mVar 7)))) (tRet (tC (.bl false))) tNext)
    (tIfS (mTest (tOp oGt (mVar 1) (tC (.int 1)))) (tSeq (tPar 8 9 (tCons (tCall (sp_law_asks K) [] E0 (tCons (mVar 1) (tCons (tC (.str "hinge")) (tCons (mVar 7) tNil)))) (tCons (tOp (oAdd K) (tSl (oSl K) (mVar 5) tNoPart (mPart (mVar 6))) (tSl (oSl K) (mVar 5) (mPart (tOp (oAdd K) (mVar 6) (tC (.int 1)))) tNoPart)) tNil)))
    (tSeq (tIfS (tOr (mTest (tOp (oNe K) (tCall (sp_law_rank K) [] E0 (tCons (mVar 8) tNil)) (tOp oSub (mVar 2) (tC (.int 1))))) (tOr (mTest (tOp (oNe K) (tCall (sp_law_rank K) [] E0 (tCons (mVar 9) tNil)) (tOp oSub (mVar 2) (tC (.int 1))))) (mTest (tOp (oNe K) (tCall (sp_law_rank K) [] E0 (tCons (tOp (oAdd K) (mVar 8) (mVar 9)) tNil)) (tOp oSub (mVar 2) (tC (.int 1))))))) (tRet (tC (.bl false))) tNext)
    (tIfS (mTest (tOp (oNe K) (tCall (sp_law_rank K) [] E0 (tCons (tOp (oAdd K) (mVar 8) (tLst (tCons (tOp (oIx K) (mVar 5) (mVar 6)) tNil))) tNil)) (mVar 2))) (tRet (tC (.bl false))) tNext))) tNext))))
    (tRet (tC (.bl true)))))))))
abbrev s_law_refused : Stmt := top 38
abbrev n_law_refused : List Str := ["pen", "far", "dimension", "bad", "heard"]
theorem sc_law_refused : FnScope n_law_refused ["pen"] (defScope s_law_refused) := ⟨rfl, rfl, rfl, by decide +kernel, rfl, by decide +kernel, by decide +kernel⟩
def t_law_refused (K : PySem.W.Frag) : TS := (tSeq (tAsg (tTup (tCons (tCall (sp_law_pick K) [] E0 (tCons (mVar 0) (tCons (tLst (tCons (tC (.int 0)) (tCons (tC (.int 4)) (tCons (tUn oNeg (tC (.int 1))) (tCons (tC (.bl true)) (tCons (tC .non) (tCons (tC (.str "2")) (tCons (tTup (tCons (tC (.int 2)) tNil)) (tCons (tLst (tCons (tC (.int 3)) tNil)) (tCons (tOp oPow (tC (.int 10)) (tC (.int 30))) tNil)))))))))) tNil))) (tCons (tCall (sp_law_pick K) [] E0 (tCons (mVar 0) (tCons (tLst (tCons (tC (.int 1)) (tCons (tC (.int 2)) (tCons (tC (.int 3)) tNil)))) tNil))) tNil))) (gTup K 2 (gCons (gName 1) (gCons (gName 2) gNil))))
    (tSeq (tAsg (tCall (sp_law_pick K) [] E0 (tCons (mVar 0) (tCons (tLst (tCons (tUn oNeg (tC (.int 1))) (tCons (tOp (oIx K) (tLst (tCons (tC (.int 1)) (tCons (tC (.int 3)) (tCons (tC (.int 6)) tNil)))) (tOp oSub (mVar 2) (tC (.int 1)))) (tCons (tC (.bl true)) (tCons (tC .non) (tCons (tC (.str "0")) (tCons (tTup (tCons (tC (.int 0)) tNil)) (tCons (tOp oPow (tC (.int 10)) (tC (.int 30))) tNil)))))))) tNil))) (gName 3))
    (tSeq (tAsg (tLst (tCons (mLam (tabs K) (TT_law_heard K) (fun E => (tCall (sp_corners K) [] E (tCons (mVar 1) tNil)))) (tCons (mLam (tabs K) (TT_law_heard K) (fun E => (tCall (sp_edges K) [] E (tCons (mVar 1) tNil)))) (tCons (mLam (tabs K) (TT_law_heard K) (fun E => (tCall (sp_opposite K) [] E (tCons (mVar 1) (tCons (mVar 3) tNil))))) (tCons (mLam (tabs K) (TT_law_heard K) (fun E => (tCall (sp_opposite K) [] E (tCons (mVar 1) (tCons (tC (.int 0)) tNil))))) tNil))))) (gName 4))
    (tRet (mAnd (tOp (oEq K) (mVar 4) (tOp (oMulU K) (tLst (tCons (tTup (tCons (tC (.str "BadDimension")) (tCons (mVar 1) tNil))) tNil)) (tC (.int 4)))) (tOp (oEq K) (mLam (tabs K) (TT_law_heard K) (fun E => (tCall (sp_opposite K) [] E (tCons (mVar 2) (tCons (mVar 3) tNil))))) (tTup (tCons (tC (.str "BadNumber")) (tCons (tC (.str "at")) tNil)))))))))
abbrev s_law : Stmt := top 39
abbrev n_law : List Str := ["script", "pen", "turn", "dimension"]
theorem sc_law : FnScope n_law ["script"] (defScope s_law) := ⟨rfl, rfl, rfl, by decide +kernel, rfl, by decide +kernel, by decide +kernel⟩
def t_law (K : PySem.W.Frag) : TS := (tSeq (tAsg (tCall (sp_law_pen K) [] E0 (tCons (mVar 0) tNil)) (gName 1))
    (tSeq (tFor (iRng1 (tCons (tC (.int 3)) tNil)) (gName 2) (tIfS (tNot (mTest (tCall (sp_law_refused K) [] E0 (tCons (mVar 1) tNil)))) (tRet (tC (.bl false))) tNext))
    (tRet (tCB (rAllU K) (tCons (tLc (iU K (tTup (tCons (tC (.int 1)) (tCons (tC (.int 2)) (tCons (tC (.int 3)) tNil))))) (gName 3) tYes (tCall (sp_law_right K) [] E0 (tCons (mVar 1) (tCons (mVar 3) tNil))) [3]) tNil)))))
structure Top (K : PySem.W.Frag) (mg : Str → Option Value) : Prop where
  ef : EF K
  tn : tabsB (tabs K) = true
  d_is_integer : ∃ fd, FnP K "is_integer" "is_integer" s_is_integer (He.fAd K ("is_integer", none)) fd
  d_BadDimension : ∃ fd, FnP K "__init__" "BadDimension.__init__" s_BadDimension (He.fAd K ("BadDimension", some "__init__")) fd
  d_BadNumber : ∃ fd, FnP K "__init__" "BadNumber.__init__" s_BadNumber (He.fAd K ("BadNumber", some "__init__")) fd
  d_width_of : ∃ fd, FnP K "width_of" "width_of" s_width_of (He.fAd K ("width_of", none)) fd
  d_corners_in : ∃ fd, FnP K "corners_in" "corners_in" s_corners_in (He.fAd K ("corners_in", none)) fd
  d_law_pen : ∃ fd, FnP K "_law_pen" "_law_pen" s_law_pen (He.fAd K ("_law_pen", none)) fd
  d_law_draw : ∃ fd, FnP K "_law_draw" "_law_draw" s_law_draw (He.fAd K ("_law_draw", none)) fd
  d_law_speed : ∃ fd, FnP K "_law_speed" "_law_speed" s_law_speed (He.fAd K ("_law_speed", none)) fd
  d_law_units : ∃ fd, FnP K "_law_units" "_law_units" s_law_units (He.fAd K ("_law_units", none)) fd
  d_law_pivots : ∃ fd, FnP K "_law_pivots" "_law_pivots" s_law_pivots (He.fAd K ("_law_pivots", none)) fd
  d_law_heard : ∃ fd, FnP K "_law_heard" "_law_heard" s_law_heard (He.fAd K ("_law_heard", none)) fd
  d_law_corners : ∃ fd, FnP K "_law_corners" "_law_corners" s_law_corners (He.fAd K ("_law_corners", none)) fd
  d_is_within : ∃ fd, FnP K "is_within" "is_within" s_is_within (He.fAd K ("is_within", none)) fd
  d_edges_in : ∃ fd, FnP K "edges_in" "edges_in" s_edges_in (He.fAd K ("edges_in", none)) fd
  d_law_pick : ∃ fd, FnP K "_law_pick" "_law_pick" s_law_pick (He.fAd K ("_law_pick", none)) fd
  d_law_asks : ∃ fd, FnP K "_law_asks" "_law_asks" s_law_asks (He.fAd K ("_law_asks", none)) fd
  d_law_rank : ∃ fd, FnP K "_law_rank" "_law_rank" s_law_rank (He.fAd K ("_law_rank", none)) fd
  d_law_edges : ∃ fd, FnP K "_law_edges" "_law_edges" s_law_edges (He.fAd K ("_law_edges", none)) fd
  d_need_dimension : ∃ fd, FnP K "need_dimension" "need_dimension" s_need_dimension (He.fAd K ("need_dimension", none)) fd
  d_opposite_in : ∃ fd, FnP K "opposite_in" "opposite_in" s_opposite_in (He.fAd K ("opposite_in", none)) fd
  d_law_opposite : ∃ fd, FnP K "_law_opposite" "_law_opposite" s_law_opposite (He.fAd K ("_law_opposite", none)) fd
  d_corners : ∃ fd, FnP K "corners" "corners" s_corners (He.fAd K ("corners", none)) fd
  d_edges : ∃ fd, FnP K "edges" "edges" s_edges (He.fAd K ("edges", none)) fd
  d_opposite : ∃ fd, FnP K "opposite" "opposite" s_opposite (He.fAd K ("opposite", none)) fd
  d_law_same : ∃ fd, FnP K "_law_same" "_law_same" s_law_same (He.fAd K ("_law_same", none)) fd
  d_law_right : ∃ fd, FnP K "_law_right" "_law_right" s_law_right (He.fAd K ("_law_right", none)) fd
  d_law_refused : ∃ fd, FnP K "_law_refused" "_law_refused" s_law_refused (He.fAd K ("_law_refused", none)) fd
  d_law : ∃ fd, FnP K "law" "law" s_law (He.fAd K ("law", none)) fd
  a_is_integer : mg "is_integer" = some (.ref (He.ga K "is_integer"))
  a_width_of : mg "width_of" = some (.ref (He.ga K "width_of"))
  a_corners_in : mg "corners_in" = some (.ref (He.ga K "corners_in"))
  a_law_pen : mg "_law_pen" = some (.ref (He.ga K "_law_pen"))
  a_law_draw : mg "_law_draw" = some (.ref (He.ga K "_law_draw"))
  a_law_speed : mg "_law_speed" = some (.ref (He.ga K "_law_speed"))
  a_law_units : mg "_law_units" = some (.ref (He.ga K "_law_units"))
  a_law_pivots : mg "_law_pivots" = some (.ref (He.ga K "_law_pivots"))
  a_law_heard : mg "_law_heard" = some (.ref (He.ga K "_law_heard"))
  a_law_corners : mg "_law_corners" = some (.ref (He.ga K "_law_corners"))
  a_is_within : mg "is_within" = some (.ref (He.ga K "is_within"))
  a_edges_in : mg "edges_in" = some (.ref (He.ga K "edges_in"))
  a_law_pick : mg "_law_pick" = some (.ref (He.ga K "_law_pick"))
  a_law_asks : mg "_law_asks" = some (.ref (He.ga K "_law_asks"))
  a_law_rank : mg "_law_rank" = some (.ref (He.ga K "_law_rank"))
  a_law_edges : mg "_law_edges" = some (.ref (He.ga K "_law_edges"))
  a_need_dimension : mg "need_dimension" = some (.ref (He.ga K "need_dimension"))
  a_opposite_in : mg "opposite_in" = some (.ref (He.ga K "opposite_in"))
  a_law_opposite : mg "_law_opposite" = some (.ref (He.ga K "_law_opposite"))
  a_corners : mg "corners" = some (.ref (He.ga K "corners"))
  a_edges : mg "edges" = some (.ref (He.ga K "edges"))
  a_opposite : mg "opposite" = some (.ref (He.ga K "opposite"))
  a_law_same : mg "_law_same" = some (.ref (He.ga K "_law_same"))
  a_law_right : mg "_law_right" = some (.ref (He.ga K "_law_right"))
  a_law_refused : mg "_law_refused" = some (.ref (He.ga K "_law_refused"))
  a_law : mg "law" = some (.ref (He.ga K "law"))
  a_BadDimension : mg "BadDimension" = some (.ref (He.ga K "BadDimension"))
  a_BadNumber : mg "BadNumber" = some (.ref (He.ga K "BadNumber"))
  a_BadPlacement : mg "BadPlacement" = some (.ref (He.ga K "BadPlacement"))
  a_BadStructure : mg "BadStructure" = some (.ref (He.ga K "BadStructure"))
  a_GiveError : mg "GiveError" = some (.ref (He.ga K "GiveError"))
  a_TooMany : mg "TooMany" = some (.ref (He.ga K "TooMany"))
  b_abs : mg "abs" = none
  b_all : mg "all" = none
  b_bool : mg "bool" = none
  b_int : mg "int" = none
  b_isinstance : mg "isinstance" = none
  b_len : mg "len" = none
  b_list : mg "list" = none
  b_range : mg "range" = none
  b_sum : mg "sum" = none
  b_tuple : mg "tuple" = none
  c_ENDS : mg "ENDS" = some (.ref (He.ga K "ENDS"))
  c_MOST_DIMENSION : ∃ t, mg "MOST_DIMENSION" = some (.int 3 t)
def facts : List He.Fa := [.glo "is_integer", .glo "width_of", .glo "corners_in", .glo "_law_pen", .glo "_law_draw", .glo "_law_speed", .glo "_law_units", .glo "_law_pivots", .glo "_law_heard", .glo "_law_corners", .glo "is_within", .glo "edges_in", .glo "_law_pick", .glo "_law_asks", .glo "_law_rank", .glo "_law_edges", .glo "need_dimension", .glo "opposite_in", .glo "_law_opposite", .glo "corners", .glo "edges", .glo "opposite", .glo "_law_same", .glo "_law_right", .glo "_law_refused", .glo "law", .glo "BadDimension", .glo "BadNumber", .glo "BadPlacement", .glo "BadStructure", .glo "GiveError", .glo "TooMany", .free "abs", .free "all", .free "bool", .free "int", .free "isinstance", .free "len", .free "list", .free "range", .free "sum", .free "tuple", .glo "ENDS", .int "MOST_DIMENSION" 3]
def fns : List He.DefD := [⟨("is_integer", none), "is_integer", "is_integer", defArgs s_is_integer, defBody s_is_integer, defScope s_is_integer, [], []⟩,
  ⟨("BadDimension", some "__init__"), "__init__", "BadDimension.__init__", defArgs s_BadDimension, defBody s_BadDimension, defScope s_BadDimension, [], []⟩,
  ⟨("BadNumber", some "__init__"), "__init__", "BadNumber.__init__", defArgs s_BadNumber, defBody s_BadNumber, defScope s_BadNumber, [], []⟩,
  ⟨("width_of", none), "width_of", "width_of", defArgs s_width_of, defBody s_width_of, defScope s_width_of, [], []⟩,
  ⟨("corners_in", none), "corners_in", "corners_in", defArgs s_corners_in, defBody s_corners_in, defScope s_corners_in, [], []⟩,
  ⟨("_law_pen", none), "_law_pen", "_law_pen", defArgs s_law_pen, defBody s_law_pen, defScope s_law_pen, [], []⟩,
  ⟨("_law_draw", none), "_law_draw", "_law_draw", defArgs s_law_draw, defBody s_law_draw, defScope s_law_draw, [], []⟩,
  ⟨("_law_speed", none), "_law_speed", "_law_speed", defArgs s_law_speed, defBody s_law_speed, defScope s_law_speed, [], []⟩,
  ⟨("_law_units", none), "_law_units", "_law_units", defArgs s_law_units, defBody s_law_units, defScope s_law_units, [], []⟩,
  ⟨("_law_pivots", none), "_law_pivots", "_law_pivots", defArgs s_law_pivots, defBody s_law_pivots, defScope s_law_pivots, [], []⟩,
  ⟨("_law_heard", none), "_law_heard", "_law_heard", defArgs s_law_heard, defBody s_law_heard, defScope s_law_heard, [], []⟩,
  ⟨("_law_corners", none), "_law_corners", "_law_corners", defArgs s_law_corners, defBody s_law_corners, defScope s_law_corners, [], []⟩,
  ⟨("is_within", none), "is_within", "is_within", defArgs s_is_within, defBody s_is_within, defScope s_is_within, [], []⟩,
  ⟨("edges_in", none), "edges_in", "edges_in", defArgs s_edges_in, defBody s_edges_in, defScope s_edges_in, [], []⟩,
  ⟨("_law_pick", none), "_law_pick", "_law_pick", defArgs s_law_pick, defBody s_law_pick, defScope s_law_pick, [], []⟩,
  ⟨("_law_asks", none), "_law_asks", "_law_asks", defArgs s_law_asks, defBody s_law_asks, defScope s_law_asks, [], []⟩,
  ⟨("_law_rank", none), "_law_rank", "_law_rank", defArgs s_law_rank, defBody s_law_rank, defScope s_law_rank, [], []⟩,
  ⟨("_law_edges", none), "_law_edges", "_law_edges", defArgs s_law_edges, defBody s_law_edges, defScope s_law_edges, [], []⟩,
  ⟨("need_dimension", none), "need_dimension", "need_dimension", defArgs s_need_dimension, defBody s_need_dimension, defScope s_need_dimension, [], []⟩,
  ⟨("opposite_in", none), "opposite_in", "opposite_in", defArgs s_opposite_in, defBody s_opposite_in, defScope s_opposite_in, [], []⟩,
  ⟨("_law_opposite", none), "_law_opposite", "_law_opposite", defArgs s_law_opposite, defBody s_law_opposite, defScope s_law_opposite, [], []⟩,
  ⟨("corners", none), "corners", "corners", defArgs s_corners, defBody s_corners, defScope s_corners, [], []⟩,
  ⟨("edges", none), "edges", "edges", defArgs s_edges, defBody s_edges, defScope s_edges, [], []⟩,
  ⟨("opposite", none), "opposite", "opposite", defArgs s_opposite, defBody s_opposite, defScope s_opposite, [], []⟩,
  ⟨("_law_same", none), "_law_same", "_law_same", defArgs s_law_same, defBody s_law_same, defScope s_law_same, [], []⟩,
  ⟨("_law_right", none), "_law_right", "_law_right", defArgs s_law_right, defBody s_law_right, defScope s_law_right, [], []⟩,
  ⟨("_law_refused", none), "_law_refused", "_law_refused", defArgs s_law_refused, defBody s_law_refused, defScope s_law_refused, [], []⟩,
  ⟨("law", none), "law", "law", defArgs s_law, defBody s_law, defScope s_law, [], []⟩]
def exl (K : PySem.W.Frag) : List Bool := [errB K (He.ga K "BadDimension"),
  (["value"] : List Str).all fun f => He.eqO (PySem.W.findIn K (.ref (He.ga K "BadDimension")) f) (some none),
  decide (PySem.W.kitOne K (.ref (He.ga K "BadDimension")) (.ref (He.ga K "BadDimension")) = some true),
  decide (PySem.W.kitOne K (.ref (He.ga K "BadDimension")) (.ref (He.ga K "BadNumber")) = some false),
  decide (PySem.W.kitOne K (.ref (He.ga K "BadDimension")) (.ref (He.ga K "BadPlacement")) = some false),
  decide (PySem.W.kitOne K (.ref (He.ga K "BadDimension")) (.ref (He.ga K "BadStructure")) = some false),
  decide (PySem.W.exmOne K (.ref (He.ga K "BadDimension")) (.ref (He.ga K "GiveError")) = some true),
  decide (PySem.W.kitOne K (.ref (He.ga K "BadDimension")) (.ref (He.ga K "TooMany")) = some false),
  errB K (He.ga K "BadNumber"),
  (["part"] : List Str).all fun f => He.eqO (PySem.W.findIn K (.ref (He.ga K "BadNumber")) f) (some none),
  decide (PySem.W.kitOne K (.ref (He.ga K "BadNumber")) (.ref (He.ga K "BadDimension")) = some false),
  decide (PySem.W.kitOne K (.ref (He.ga K "BadNumber")) (.ref (He.ga K "BadNumber")) = some true),
  decide (PySem.W.kitOne K (.ref (He.ga K "BadNumber")) (.ref (He.ga K "BadPlacement")) = some false),
  decide (PySem.W.kitOne K (.ref (He.ga K "BadNumber")) (.ref (He.ga K "BadStructure")) = some false),
  decide (PySem.W.exmOne K (.ref (He.ga K "BadNumber")) (.ref (He.ga K "GiveError")) = some true),
  decide (PySem.W.kitOne K (.ref (He.ga K "BadNumber")) (.ref (He.ga K "TooMany")) = some false),
  kdI K (He.ga K "ENDS") [(1, (.tuple [(.tuple [(.int 0), (.int 1)])])), (2, (.tuple [(.tuple [(.int 0), (.int 1)]), (.tuple [(.int 0), (.int 2)]), (.tuple [(.int 1), (.int 2)])])), (3, (.tuple [(.tuple [(.int 0), (.int 1)]), (.tuple [(.int 0), (.int 2)]), (.tuple [(.int 0), (.int 3)]), (.tuple [(.int 1), (.int 2)]), (.tuple [(.int 2), (.int 3)]), (.tuple [(.int 3), (.int 1)])]))],
  tabsB (tabs K)]
def exB (K : PySem.W.Frag) : Bool := (exl K).all id
theorem ef_mk {K : PySem.W.Frag} (h : exB K = true) : EF K := ⟨(errB_ok (all_at h 0 rfl)), (fun f hf => He.eqO_ok (List.all_eq_true.mp (all_at h 1 rfl) f hf)), (of_decide_eq_true (all_at h 2 rfl)), (of_decide_eq_true (all_at h 3 rfl)), (of_decide_eq_true (all_at h 4 rfl)), (of_decide_eq_true (all_at h 5 rfl)), (of_decide_eq_true (all_at h 6 rfl)), (of_decide_eq_true (all_at h 7 rfl)), (errB_ok (all_at h 8 rfl)), (fun f hf => He.eqO_ok (List.all_eq_true.mp (all_at h 9 rfl) f hf)), (of_decide_eq_true (all_at h 10 rfl)), (of_decide_eq_true (all_at h 11 rfl)), (of_decide_eq_true (all_at h 12 rfl)), (of_decide_eq_true (all_at h 13 rfl)), (of_decide_eq_true (all_at h 14 rfl)), (of_decide_eq_true (all_at h 15 rfl)), ((all_at h 16 rfl))⟩
theorem top_mk {K : PySem.W.Frag} {h : Heap} {mg : Str → Option Value} (X : K.In h) (G : h.Ns mainGlobals mg) (c : He.SaysD facts fns K) (e : exB K = true) : Top K mg :=
  ⟨ef_mk e, all_at e 17 rfl, c.def_ 0 rfl, c.def_ 1 rfl, c.def_ 2 rfl, c.def_ 3 rfl, c.def_ 4 rfl, c.def_ 5 rfl, c.def_ 6 rfl, c.def_ 7 rfl, c.def_ 8 rfl, c.def_ 9 rfl, c.def_ 10 rfl, c.def_ 11 rfl, c.def_ 12 rfl, c.def_ 13 rfl, c.def_ 14 rfl, c.def_ 15 rfl, c.def_ 16 rfl, c.def_ 17 rfl, c.def_ 18 rfl, c.def_ 19 rfl, c.def_ 20 rfl, c.def_ 21 rfl, c.def_ 22 rfl, c.def_ 23 rfl, c.def_ 24 rfl, c.def_ 25 rfl, c.def_ 26 rfl, c.def_ 27 rfl,
   He.glo_ok X G (c.fact 0 rfl),
   He.glo_ok X G (c.fact 1 rfl),
   He.glo_ok X G (c.fact 2 rfl),
   He.glo_ok X G (c.fact 3 rfl),
   He.glo_ok X G (c.fact 4 rfl),
   He.glo_ok X G (c.fact 5 rfl),
   He.glo_ok X G (c.fact 6 rfl),
   He.glo_ok X G (c.fact 7 rfl),
   He.glo_ok X G (c.fact 8 rfl),
   He.glo_ok X G (c.fact 9 rfl),
   He.glo_ok X G (c.fact 10 rfl),
   He.glo_ok X G (c.fact 11 rfl),
   He.glo_ok X G (c.fact 12 rfl),
   He.glo_ok X G (c.fact 13 rfl),
   He.glo_ok X G (c.fact 14 rfl),
   He.glo_ok X G (c.fact 15 rfl),
   He.glo_ok X G (c.fact 16 rfl),
   He.glo_ok X G (c.fact 17 rfl),
   He.glo_ok X G (c.fact 18 rfl),
   He.glo_ok X G (c.fact 19 rfl),
   He.glo_ok X G (c.fact 20 rfl),
   He.glo_ok X G (c.fact 21 rfl),
   He.glo_ok X G (c.fact 22 rfl),
   He.glo_ok X G (c.fact 23 rfl),
   He.glo_ok X G (c.fact 24 rfl),
   He.glo_ok X G (c.fact 25 rfl),
   He.glo_ok X G (c.fact 26 rfl),
   He.glo_ok X G (c.fact 27 rfl),
   He.glo_ok X G (c.fact 28 rfl),
   He.glo_ok X G (c.fact 29 rfl),
   He.glo_ok X G (c.fact 30 rfl),
   He.glo_ok X G (c.fact 31 rfl),
   He.free_ok X G (c.fact 32 rfl),
   He.free_ok X G (c.fact 33 rfl),
   He.free_ok X G (c.fact 34 rfl),
   He.free_ok X G (c.fact 35 rfl),
   He.free_ok X G (c.fact 36 rfl),
   He.free_ok X G (c.fact 37 rfl),
   He.free_ok X G (c.fact 38 rfl),
   He.free_ok X G (c.fact 39 rfl),
   He.free_ok X G (c.fact 40 rfl),
   He.free_ok X G (c.fact 41 rfl),
   He.glo_ok X G (c.fact 42 rfl),
   He.int_ok X G (c.fact 43 rfl)⟩

end
end GW
namespace GW
section
open PySem L2
local macro_rules | `(tactic| walk_at "side") => `(tactic| first | with_reducible rfl | with_reducible assumption | omega | rfl | exact ⟨_, rfl⟩ | exact Nat.le_of_ble_eq_true rfl | decide | (unfold CDiv; omega) | (unfold CMul; omega) | (unfold CPow; omega))
/-- the goal's head form, what stands beside closed -/
local macro_rules | `(tactic| walk_at "s") => `(tactic| ((conv => whnf); repeat (refine And.intro (by walk_at "side") ?_; (conv => whnf))))
local macro_rules | `(tactic| walk_at "if") => `(tactic| first | refine brD ?_ ?_ | refine brN ?_ ?_ | refine brd ?_ ?_)
/-- an item at a written place of a list that stands -/
local macro_rules | `(tactic| walk_at "ix") => `(tactic| (refine Or.inl ⟨_, _, _, rfl, Or.inl (SqL.of ‹_›), rfl, ?_⟩; walk_at "s"))
/-- a new object: its heap, its content, what stood -/
local macro_rules | `(tactic| walk_at "new") => `(tactic| first | refine heapN (by assumption) ?_ | refine heapN2 (by assumption) ?_)
local macro_rules | `(tactic| walk_at "put") => `(tactic| first | refine heapS ?_ | refine heapS2 ?_)
/-- a new tuple taken apart into two, three names -/
local macro_rules | `(tactic| walk_at "tup2") => `(tactic| (refine ⟨_, _, rfl, SqT.of ‹_›, rfl, _, _, rfl, ?_⟩; (conv => whnf); refine ⟨_, _, rfl, ?_⟩; walk_at "s"))
local macro_rules | `(tactic| walk_at "tup3") => `(tactic| (refine ⟨_, _, rfl, SqT.of ‹_›, rfl, _, _, rfl, ?_⟩; (conv => whnf); refine ⟨_, _, rfl, ?_⟩; (conv => whnf); refine ⟨_, _, rfl, ?_⟩; walk_at "s"))
local macro_rules | `(tactic| walk_at "tup4") => `(tactic| (refine ⟨_, _, rfl, SqT.of ‹_›, rfl, _, _, rfl, ?_⟩; (conv => whnf); refine ⟨_, _, rfl, ?_⟩; (conv => whnf); refine ⟨_, _, rfl, ?_⟩; (conv => whnf); refine ⟨_, _, rfl, ?_⟩; walk_at "s"))

theorem Pen.same {H H' : Hp} {p c : Addr} {n : Int} (h : Pen H p c n) (e : Same H H') : Pen H' p c n := by
  obtain ⟨ns, a, l, h1, h2, r⟩ := h
  exact ⟨ns, a, l, e _ _ h1, e _ _ h2, r⟩
theorem Pen.mono {H : Hp} {p c : Addr} {n m : Int} (h : Pen H p c n) (e : n ≤ m) : Pen H p c m := by
  obtain ⟨ns, a, l, h1, h2, h3, h4, r⟩ := h
  exact ⟨ns, a, l, h1, h2, h3, by omega, r⟩
theorem pu_law_heard {K : PySem.W.Frag} (F : EF K) : ∀ (f c' : Addr) (q : Str) (T : XK → Hp → VK → Prop) (H : Hp) (Q : VK), H c' = some (LamX.CodeO c' q) → TT_law_heard K T H Q → t_law_heard K f c' q T { nx := fun _ H' => Q .non H', rt := Q } (start n_law_heard [.ref f]) H := by
  intro f c' q T H Q code h
  walk_at "s"
  intro p hp
  walk_at "new"
  intro H1 h1 s1
  have told := h H1 p hp s1 h1
  refine ⟨_, _, rfl, rfl, s1 _ _ code, _, ?_, told⟩
  rintro cls d G ⟨g1, dd, x, fl, v, rfl, rfl, g2, kind, done⟩
  rcases kind with ⟨rfl, rfl⟩ | ⟨rfl, rfl⟩
  · refine ⟨true, F.m_BadDimension_GiveError, (fun z => nomatch z), fun _ a na => ?_⟩
    walk_at "s"
    have ed : a ≠ dd := fun z => by rw [z, g2] at na; cases na
    have ep : a ≠ p := fun z => by rw [z, g1] at na; cases na
    generalize hG : upd G a _ = G2
    have ga := hG ▸ upd_same (H := G) (a := a)
    have gs : Same G G2 := hG ▸ same_new na
    walk_at "s"
    have g2' := gs _ _ g2
    have g1' := gs _ _ g1
    refine ⟨a, _, _, some dd, _, rfl, ga, fun _ => ⟨dd, _, rfl, g2'⟩, F.e_BadDimension.xc, F.i_BadDimension_BadDimension, ?_⟩
    walk_at "s"
    refine ⟨Or.inl ⟨rfl, _, SqL.of g1'⟩, ?_⟩
    walk_at "s"
    refine ⟨a, _, dd, _, v, rfl, ga, g2', F.e_BadDimension.xf, F.n_BadDimension "value" (List.mem_singleton.mpr rfl), rfl, ?_⟩
    walk_at "s"
    intro r nr
    walk_at "new"
    intro G3 h3 s3
    walk_at "s"
    refine ⟨p, [], _, rfl, rfl, s3 _ _ g1', by decide, ?_⟩
    have pr : p ≠ r := fun z => by rw [← z, g1'] at nr; cases nr
    walk_at "put"
    intro G4 h4 k4
    have ga4 := k4 _ _ ep (s3 _ _ ga)
    have dp : dd ≠ p := fun z => by rw [z, g1] at g2; cases g2
    have g24 := k4 _ _ dp (s3 _ _ g2')
    have h34 := k4 _ _ (Ne.symm pr) h3
    walk_at "s"
    refine ⟨a, _, _, some dd, _, rfl, ga4, fun _ => ⟨dd, _, rfl, g24⟩, F.e_BadDimension.xc, F.i_BadDimension_BadNumber, ?_⟩
    walk_at "s"
    refine ⟨a, _, _, some dd, _, rfl, ga4, fun _ => ⟨dd, _, rfl, g24⟩, F.e_BadDimension.xc, F.i_BadDimension_BadPlacement, ?_⟩
    walk_at "s"
    refine ⟨a, _, _, some dd, _, rfl, ga4, fun _ => ⟨dd, _, rfl, g24⟩, F.e_BadDimension.xc, F.i_BadDimension_BadStructure, ?_⟩
    walk_at "s"
    refine ⟨a, _, _, some dd, _, rfl, ga4, fun _ => ⟨dd, _, rfl, g24⟩, F.e_BadDimension.xc, F.i_BadDimension_TooMany, ?_⟩
    walk_at "s"
    refine ⟨_, Or.inl ⟨_, Or.inl (SqL.of h4), rfl⟩, ?_⟩
    walk_at "s"
    refine Or.inl ⟨_, _, _, rfl, Or.inl (SqL.of h4), rfl, ?_⟩
    walk_at "s"
    have nr0 : G r = none := by
      cases e : G r with
      | none => rfl
      | some o => rw [gs _ _ e] at nr; cases nr
    exact done r G4 (fun b o n e => k4 _ _ n (s3 _ _ (gs _ _ e))) nr0 h34
  · refine ⟨true, F.m_BadNumber_GiveError, (fun z => nomatch z), fun _ a na => ?_⟩
    walk_at "s"
    have ed : a ≠ dd := fun z => by rw [z, g2] at na; cases na
    have ep : a ≠ p := fun z => by rw [z, g1] at na; cases na
    generalize hG : upd G a _ = G2
    have ga := hG ▸ upd_same (H := G) (a := a)
    have gs : Same G G2 := hG ▸ same_new na
    walk_at "s"
    have g2' := gs _ _ g2
    have g1' := gs _ _ g1
    refine ⟨a, _, _, some dd, _, rfl, ga, fun _ => ⟨dd, _, rfl, g2'⟩, F.e_BadNumber.xc, F.i_BadNumber_BadDimension, ?_⟩
    walk_at "s"
    refine ⟨a, _, _, some dd, _, rfl, ga, fun _ => ⟨dd, _, rfl, g2'⟩, F.e_BadNumber.xc, F.i_BadNumber_BadNumber, ?_⟩
    walk_at "s"
    refine ⟨Or.inl ⟨rfl, _, SqL.of g1'⟩, ?_⟩
    walk_at "s"
    refine ⟨a, _, dd, _, v, rfl, ga, g2', F.e_BadNumber.xf, F.n_BadNumber "part" (List.mem_singleton.mpr rfl), rfl, ?_⟩
    walk_at "s"
    intro r nr
    walk_at "new"
    intro G3 h3 s3
    walk_at "s"
    refine ⟨p, [], _, rfl, rfl, s3 _ _ g1', by decide, ?_⟩
    have pr : p ≠ r := fun z => by rw [← z, g1'] at nr; cases nr
    walk_at "put"
    intro G4 h4 k4
    have ga4 := k4 _ _ ep (s3 _ _ ga)
    have dp : dd ≠ p := fun z => by rw [z, g1] at g2; cases g2
    have g24 := k4 _ _ dp (s3 _ _ g2')
    have h34 := k4 _ _ (Ne.symm pr) h3
    walk_at "s"
    refine ⟨a, _, _, some dd, _, rfl, ga4, fun _ => ⟨dd, _, rfl, g24⟩, F.e_BadNumber.xc, F.i_BadNumber_BadPlacement, ?_⟩
    walk_at "s"
    refine ⟨a, _, _, some dd, _, rfl, ga4, fun _ => ⟨dd, _, rfl, g24⟩, F.e_BadNumber.xc, F.i_BadNumber_BadStructure, ?_⟩
    walk_at "s"
    refine ⟨a, _, _, some dd, _, rfl, ga4, fun _ => ⟨dd, _, rfl, g24⟩, F.e_BadNumber.xc, F.i_BadNumber_TooMany, ?_⟩
    walk_at "s"
    refine ⟨_, Or.inl ⟨_, Or.inl (SqL.of h4), rfl⟩, ?_⟩
    walk_at "s"
    refine Or.inl ⟨_, _, _, rfl, Or.inl (SqL.of h4), rfl, ?_⟩
    walk_at "s"
    have nr0 : G r = none := by
      cases e : G r with
      | none => rfl
      | some o => rw [gs _ _ e] at nr; cases nr
    exact done r G4 (fun b o n e => k4 _ _ n (s3 _ _ (gs _ _ e))) nr0 h34

theorem ln_is_integer {K : PySem.W.Frag} : ∀ vs H Q E, sp_is_integer K vs H Q E → vs.length = 1 := by rintro vs H Q E ⟨v, rfl, _⟩; rfl
theorem ln_width_of {K : PySem.W.Frag} : ∀ vs H Q E, sp_width_of K vs H Q E → vs.length = 1 := by rintro vs H Q E ⟨v, rfl, _⟩; rfl
theorem ln_corners_in {K : PySem.W.Frag} : ∀ vs H Q E, sp_corners_in K vs H Q E → vs.length = 1 := by rintro vs H Q E ⟨v, rfl, _⟩; rfl
theorem ln_law_pen {K : PySem.W.Frag} : ∀ vs H Q E, sp_law_pen K vs H Q E → vs.length = 1 := by rintro vs H Q E ⟨v, _, rfl, _⟩; rfl
theorem ln_law_draw {K : PySem.W.Frag} : ∀ vs H Q E, sp_law_draw K vs H Q E → vs.length = 2 := by rintro vs H Q E ⟨_, _, _, _, rfl, _⟩; rfl
theorem ln_law_pick {K : PySem.W.Frag} : ∀ vs H Q E, sp_law_pick K vs H Q E → vs.length = 2 := by rintro vs H Q E ⟨_, _, _, _, _, rfl, _⟩; rfl
theorem ln_law_speed {K : PySem.W.Frag} : ∀ vs H Q E, sp_law_speed K vs H Q E → vs.length = 2 := by rintro vs H Q E ⟨_, _, _, _, rfl, _⟩; rfl
theorem ln_law_units {K : PySem.W.Frag} : ∀ vs H Q E, sp_law_units K vs H Q E → vs.length = 1 := by rintro vs H Q E ⟨_, rfl, _⟩; rfl
theorem ln_law_corners {K : PySem.W.Frag} : ∀ vs H Q E, sp_law_corners K vs H Q E → vs.length = 1 := by rintro vs H Q E ⟨v, rfl, _⟩; rfl
theorem ln_law_edges {K : PySem.W.Frag} : ∀ vs H Q E, sp_law_edges K vs H Q E → vs.length = 1 := by rintro vs H Q E ⟨v, rfl, _⟩; rfl
theorem ln_is_within {K : PySem.W.Frag} : ∀ vs H Q E, sp_is_within K vs H Q E → vs.length = 3 := by rintro vs H Q E ⟨_, _, _, rfl, _⟩; rfl
theorem ln_edges_in {K : PySem.W.Frag} : ∀ vs H Q E, sp_edges_in K vs H Q E → vs.length = 1 := by rintro vs H Q E ⟨v, rfl, _⟩; rfl
theorem ln_law_asks {K : PySem.W.Frag} : ∀ vs H Q E, sp_law_asks K vs H Q E → vs.length = 3 := by rintro vs H Q E ⟨_, _, _, _, rfl, _⟩; rfl
theorem ln_need_dimension {K : PySem.W.Frag} : ∀ vs H Q E, sp_need_dimension K vs H Q E → vs.length = 1 := by rintro vs H Q E ⟨v, rfl, _⟩; rfl
theorem ln_opposite_in {K : PySem.W.Frag} : ∀ vs H Q E, sp_opposite_in K vs H Q E → vs.length = 2 := by rintro vs H Q E ⟨_, _, rfl, _⟩; rfl
theorem ln_law_opposite {K : PySem.W.Frag} : ∀ vs H Q E, sp_law_opposite K vs H Q E → vs.length = 2 := by rintro vs H Q E ⟨_, _, rfl, _⟩; rfl
theorem ln_corners {K : PySem.W.Frag} : ∀ vs H Q E, sp_corners K vs H Q E → vs.length = 1 := by rintro vs H Q E ⟨v, rfl, _⟩; rfl
theorem ln_edges {K : PySem.W.Frag} : ∀ vs H Q E, sp_edges K vs H Q E → vs.length = 1 := by rintro vs H Q E ⟨v, rfl, _⟩; rfl
theorem ln_opposite {K : PySem.W.Frag} : ∀ vs H Q E, sp_opposite K vs H Q E → vs.length = 2 := by rintro vs H Q E ⟨_, _, rfl, _⟩; rfl
theorem ln_law_same {K : PySem.W.Frag} : ∀ n vs H Q E, sp_law_same K n vs H Q E → vs.length = 2
  | 0, vs, H, Q, E, h => h.elim
  | n + 1, vs, H, Q, E, h => by obtain ⟨_, _, _, rfl, _⟩ := h; rfl
theorem ln_law_right {K : PySem.W.Frag} : ∀ vs H Q E, sp_law_right K vs H Q E → vs.length = 2 := by rintro vs H Q E ⟨_, _, rfl, _⟩; rfl
theorem ln_law_refused {K : PySem.W.Frag} : ∀ vs H Q E, sp_law_refused K vs H Q E → vs.length = 1 := by rintro vs H Q E ⟨_, _, _, rfl, _⟩; rfl
theorem ln_law {K : PySem.W.Frag} : ∀ vs H Q E, sp_law K vs H Q E → vs.length = 1 := by rintro vs H Q E ⟨_, _, rfl, _⟩; rfl
theorem pu_is_integer {K : PySem.W.Frag} : ∀ vs H Q E, sp_is_integer K vs H Q E → t_is_integer K { nx := fun _ H' => Q .non H', rt := Q } (start n_is_integer vs) H := by
  rintro vs H Q E ⟨v, rfl, kn, q⟩
  walk_at "s"
  cases v with
  | ref a =>
    obtain ⟨t, kn⟩ := kn
    refine ⟨t, kn, ?_⟩
    cases kn <;> exact q
  | int i => walk_at "s"; exact q
  | bl i => walk_at "s"; exact q
  | str i => exact q
  | non => exact q
  | _ => exact kn.elim
theorem pu_is_within {K : PySem.W.Frag} : ∀ vs H Q E, sp_is_within K vs H Q E → t_is_within K { nx := fun _ H' => Q .non H', rt := Q } (start n_is_within vs) H := by
  rintro vs H Q E ⟨v, lo, hi, rfl, kn, q⟩
  walk_at "s"
  refine ⟨v, rfl, kn, ?_⟩
  cases v with
  | int i =>
    walk_at "s"
    walk_at "if"
    · intro h
      walk_at "s"
      simpa [withinV, h] using q
    · intro h
      walk_at "s"
      simpa [withinV, h] using q
  | _ => exact q
theorem pu_width_of {K : PySem.W.Frag} : ∀ vs H Q E, sp_width_of K vs H Q E → t_width_of K { nx := fun _ H' => Q .non H', rt := Q } (start n_width_of vs) H := by
  rintro vs H Q E ⟨d, rfl, hd, q⟩
  rcases hd with rfl | rfl | rfl <;> (walk_at "s"; exact q)
theorem pu_need_dimension {K : PySem.W.Frag} : ∀ vs H Q E, sp_need_dimension K vs H Q E → t_need_dimension K E { nx := fun _ H' => Q .non H', rt := Q } (start n_need_dimension vs) H := by
  rintro vs H Q E ⟨v, rfl, kn, q1, q2⟩
  walk_at "s"
  refine ⟨v, 1, 3, rfl, kn, ?_⟩
  walk_at "s"
  cases e : withinV 1 3 v with
  | true => walk_at "s"; exact q1 e
  | false => walk_at "s"; exact fun d hd => q2 e d hd

theorem line1000 {n : Nat} (h : n ≤ 1000) : n ≤ sizeLine := Nat.le_trans h (by decide)
theorem cut_to {xs : List V} (k : Nat) : cutV xs none (some (k : Int)) = xs.take k := by
  unfold cutV
  rw [HT.sIx_none, HT.sIx_nat, List.drop_zero, Nat.sub_zero]
  by_cases h : k ≤ xs.length
  · rw [Nat.min_eq_left h]
  · rw [Nat.min_eq_right (by omega), List.take_length, List.take_of_length_le (by omega)]
theorem fm_ints (ns : List Int) : ((ns.map V.int).filterMap fun v => match v with | .int i => some (V.int i) | _ => none) = ns.map V.int := by
  induction ns with
  | nil => rfl
  | cons a l ih => rw [List.map_cons, List.filterMap_cons, ih]
theorem pu_law_pen {K : PySem.W.Frag} : ∀ vs H Q E, sp_law_pen K vs H Q E → t_law_pen K { nx := fun _ H' => Q .non H', rt := Q } (start n_law_pen vs) H := by
  rintro vs H Q E ⟨a, ns, rfl, hs, hl, q⟩
  walk_at "s"
  refine Or.inl ?_
  walk_at "s"
  refine ⟨_, Or.inl ⟨hs, fun p hp => ?_⟩⟩
  rw [show cutV (ns.map V.int) none (some 60) = (ns.map V.int).take 60 from cut_to 60, ← List.map_take]
  generalize hG : upd H p _ = H1
  have h1 := hG ▸ upd_same (H := H) (a := p)
  have s1 : Same H H1 := hG ▸ same_new hp
  refine ⟨p, rfl, ⟨_, SqL.of h1⟩, ?_⟩
  intro D hD
  refine lc_fm walk_list (fun v => match v with | .int i => some (V.int i) | _ => none) hD ?_ at_YAt (fun H' s => SqL.of (s _ _ h1)) ?_ ?_
  · rw [List.length_map, List.length_take]; exact line1000 (by omega)
  · intro x H' Q' R hx s k1 _
    obtain ⟨z, hz, rfl⟩ := List.mem_map.mp hx
    walk_at "s"
    exact k1 H' _ (Same.refl _) rfl
  · intro H2 h2 s2
    rw [fm_ints] at h2
    walk_at "s"
    intro p3 hp3
    have n1 : D ≠ p3 := fun e => by rw [← e, h2] at hp3; cases hp3
    have n0 : ∀ b, H2 b = none → H b = none := fun b hb => by
      cases e : H b with
      | none => rfl
      | some o => rw [s2 _ _ (s1 _ _ e)] at hb; cases hb
    have nD : H D = none := by
      cases e : H D with
      | none => rfl
      | some o => rw [s1 _ _ e] at hD; cases hD
    refine q p3 D _ (n0 _ hp3) nD (fun b o e => (upd_ne (fun z => by rw [z, n0 _ hp3] at e; cases e)).trans (s2 _ _ (s1 _ _ e))) ⟨ns.take 60, 0, 0, upd_same, ?_, by omega, by omega, by omega, by rw [List.length_take]; omega⟩
    rw [upd_ne n1]
    exact h2
theorem pw5 {c a : Int} (a0 : 0 ≤ a) (a1 : a ≤ 1000000) : CPow (c % 2147483587 + 50093 * a + 7213) 5 := by
  unfold CPow
  omega
theorem pw3 {x a : Int} (h0 : 0 ≤ x) (h1 : x < 2147483549) (a0 : 0 ≤ a) (a1 : a ≤ 1000000) : CPow (x * (2 * a + 7213) + 33191 * a * a + 50093) 3 := by
  have b1 : x * (2 * a + 7213) ≤ 2147483549 * 2007213 := Int.mul_le_mul (by omega) (by omega) (by omega) (by omega)
  have b2 : 0 ≤ x * (2 * a + 7213) := Int.mul_nonneg h0 (by omega)
  have b3 : 33191 * a * a ≤ 33191000000 * 1000000 := Int.mul_le_mul (by omega) a1 a0 (by omega)
  have b4 : 0 ≤ 33191 * a * a := Int.mul_nonneg (by omega) a0
  unfold CPow
  omega
theorem abs_nat (i : Int) : (if i < 0 then -i else i) = (i.natAbs : Int) := by split <;> omega
/-- an item of some ints at a rest -/
theorem at_rest {ns : List Int} {a : Int} (a0 : 0 ≤ a) (h : ns ≠ []) : ∃ y, atI (ns.map V.int) (a % (((ns.map V.int).length : Nat) : Int)) = some (V.int y) := by
  have hl : 0 < ns.length := List.length_pos_iff.mpr h
  rw [List.length_map]
  have h1 : 0 ≤ a % (ns.length : Int) := Int.emod_nonneg _ (by omega)
  have h2 : a % (ns.length : Int) < ns.length := Int.emod_lt_of_pos _ (by omega)
  obtain ⟨j, hj⟩ : ∃ j : Nat, a % (ns.length : Int) = (j : Int) := ⟨(a % (ns.length : Int)).toNat, by omega⟩
  rw [hj] at h2 ⊢
  refine ⟨ns[j]'(by omega), atI_nat ?_⟩
  rw [List.getElem?_map, List.getElem?_eq_getElem (by omega)]
  rfl
theorem pu_law_draw {K : PySem.W.Frag} : ∀ vs H Q E, sp_law_draw K vs H Q E → t_law_draw K { nx := fun _ H' => Q .non H', rt := Q } (start n_law_draw vs) H := by
  rintro vs H Q E ⟨p, c, m, n, rfl, ⟨ns, at_, left, hp, hc, a0, a1, l0, nl⟩, hn, m0, m1, q⟩
  have hl : at_ ≤ 1000000 := by unfold LIM at hn; omega
  have npc : c ≠ p := fun e => by subst e; rw [hp] at hc; cases ns <;> cases hc
  walk_at "s"
  walk_at "ix"
  walk_at "if"
  · intro h
    walk_at "s"
    walk_at "ix"
    refine Or.inl ⟨_, _, _, rfl, hp, rfl, ?_⟩
    walk_at "s"
    exact q _ _ (Int.emod_nonneg _ (by omega)) (Int.emod_lt_of_pos _ m0) (Kp.upd (Kp.refl H)) ⟨ns, at_, left / m, upd_same, by rw [upd_ne npc]; exact hc, a0, by omega, Int.ediv_nonneg l0 (by omega), nl⟩
  · intro h
    walk_at "s"
    walk_at "ix"
    refine Or.inl ⟨_, _, _, rfl, hp, rfl, ?_⟩
    refine heapS fun H1 hp1 k1 => ?_
    have hp1 : H1 p = some (.lst [.ref c, .int (at_ + 1), .int left]) := hp1
    have hc1 : H1 c = some (.lst (ns.map V.int)) := k1 _ _ npc hc
    dsimp only
    refine asgG (fun v H' => v = .int (50093 * at_ + 7213) ∧ H1 = H') ?_ ?_
    · intro Q' k
      walk_at "s"
      exact k _ _ ⟨rfl, rfl⟩
    rintro _ _ ⟨rfl, rfl⟩
    refine stG (fun σ' H' => ∃ y, σ' = [some (V.ref p), some (V.int m), none, some (V.int at_), some (V.int y), none] ∧ Same H1 H') ?_ ?_
    · intro Q' k
      walk_at "s"
      walk_at "ix"
      intro p2 hp2
      walk_at "new"
      intro H2 hn2 s2
      have hp2 := s2 _ _ hp1
      have hc2 := s2 _ _ hc1
      walk_at "s"
      refine ⟨_, _, .lst (SqL.of hc2) (dpAll_ints ns), .lst (SqL.of hn2) .nil, shp_ints ns, shp_nil, ?_⟩
      rw [eqv_nil]
      walk_at "s"
      walk_at "if"
      rotate_left
      · intro h0
        walk_at "s"
        exact k _ _ ⟨_, rfl, s2⟩
      · intro h0
        have h0 : ns ≠ [] := fun e => by rw [e] at h0; simp at h0
        walk_at "s"
        walk_at "ix"
        walk_at "ix"
        refine ⟨_, Or.inl ⟨_, Or.inl (SqL.of hc2), rfl⟩, ?_⟩
        obtain ⟨y, hy⟩ := at_rest a0 h0
        have hl2 : (0 : Int) < ((ns.map V.int).length : Nat) := by
          rw [List.length_map]
          have := List.length_pos_iff.mpr h0
          omega
        walk_at "s"
        refine Or.inl ⟨_, _, _, rfl, Or.inl (SqL.of hc2), hy, ?_⟩
        walk_at "s"
        exact k _ _ ⟨_, rfl, s2⟩
    · rintro σ1 H2 ⟨y, rfl, s2⟩
      have hp2 := s2 _ _ hp1
      have hc2 := s2 _ _ hc1
      have k2 : Kp p H H2 := k1.trans (same_kp s2)
      have fin : ∀ x : Int, 0 ≤ x % m ∧ x % m < m := fun x => ⟨Int.emod_nonneg _ (by omega), Int.emod_lt_of_pos _ m0⟩
      -- the end, mixed
      refine stG (fun σ' H' => σ' = [some (V.ref p), some (V.int m), none, some (V.int at_), some (V.int y), none] ∧ H' = H2) ?_ ?_
      · intro k' k
        walk_at "s"
        walk_at "ix"
        refine ⟨_, Or.inl ⟨_, Or.inl (SqL.of hc2), rfl⟩, ?_⟩
        walk_at "s"
        walk_at "if"
        · intro h1
          walk_at "s"
          walk_at "if"
          · intro h2
            rw [abs_nat] at h2
            walk_at "s"
            refine Or.inl ⟨_, _, _, rfl, hp2, rfl, ?_⟩
            walk_at "s"
            refine q _ _ (fin _).1 (fin _).2 (Kp.upd k2) ⟨ns, at_ + 1, _, upd_same, by rw [upd_ne npc]; exact hc2, by omega, by omega, ?_, nl⟩
            refine Int.ediv_nonneg ?_ (by omega)
            rw [abs_nat]
            have h3 : (10 : Int) ^ Int.toNat 18 ≤ (y.natAbs : Int) := h2
            split <;> omega
          · intro h2
            walk_at "s"
            exact k _ _ ⟨rfl, rfl⟩
        · intro h1
          walk_at "s"
          exact k _ _ ⟨rfl, rfl⟩
      · rintro σ' H' ⟨rfl, rfl⟩
        walk_at "s"
        refine ⟨pw3 (Int.emod_nonneg _ (by decide)) (Int.emod_lt_of_pos _ (by decide)) a0 hl, ?_⟩
        walk_at "s"
        exact q _ _ (fin _).1 (fin _).2 k2 ⟨ns, at_ + 1, left, hp2, hc2, by omega, by omega, l0, nl⟩
theorem atI_lt {α : Type} {xs : List α} {r : Int} (h0 : 0 ≤ r) (h1 : r < xs.length) : ∃ x, x ∈ xs ∧ atI xs r = some x := by
  obtain ⟨j, rfl⟩ : ∃ j : Nat, r = (j : Int) := ⟨r.toNat, by omega⟩
  have hj : j < xs.length := by omega
  exact ⟨xs[j], List.getElem_mem hj, atI_nat (List.getElem?_eq_getElem hj)⟩
theorem kp_sq {K : PySem.W.Frag} {p a : Addr} {H H' : Hp} {xs : List V} (k : Kp p H H') (n : a ≠ p) (h : Sq K H a xs) : Sq K H' a xs := by
  rcases h with ((h | ⟨o, h⟩) | h) | ((h | ⟨o, h⟩) | h)
  · exact .inl (.inl (.inl (k _ _ n h)))
  · exact .inl (.inl (.inr ⟨o, k _ _ n h⟩))
  · exact .inl (.inr h)
  · exact .inr (.inl (.inl (k _ _ n h)))
  · exact .inr (.inl (.inr ⟨o, k _ _ n h⟩))
  · exact .inr (.inr h)
theorem pu_law_pick {K : PySem.W.Frag} : ∀ vs H Q E, sp_law_pick K vs H Q E → t_law_pick K { nx := fun _ H' => Q .non H', rt := Q } (start n_law_pick vs) H := by
  rintro vs H Q E ⟨p, c, b, xs, n, rfl, hp, hn, hx, hl, nb, hs, q⟩
  have hpos : 0 < xs.length := List.length_pos_iff.mpr hx
  walk_at "s"
  refine ⟨_, Or.inl ⟨xs, hs, rfl⟩, ?_⟩
  walk_at "s"
  refine ⟨p, c, _, n, rfl, hp, hn, by omega, by omega, fun r H' r0 r1 k hp' => ?_⟩
  obtain ⟨x, hx, e⟩ := atI_lt r0 r1
  walk_at "s"
  refine Or.inl ⟨xs, _, x, rfl, kp_sq k nb hs, e, ?_⟩
  walk_at "s"
  exact q x H' hx k hp'

theorem filt_some {α β : Type} (f : α → β) (l : List α) : l.filterMap (fun a => some (f a)) = l.map f := by
  induction l with
  | nil => rfl
  | cons a l ih => rw [List.filterMap_cons, List.map_cons, ih]
theorem line1000' {n : Nat} (h : n ≤ 999) : n < sizeLine := Nat.lt_of_le_of_lt h (by decide)
theorem hid_kp {L : Addr} {B G G' : Hp} (k : Kp L G G') : Same (hid L (nw B G)) (hid L (nw B G')) := fun b o e => by
  unfold hid at e ⊢
  split at e
  · cases e
  · rename_i n
    rw [if_neg n]
    obtain ⟨h1, h2⟩ := nw_no e
    exact nw_at h1 (k _ _ n h2)
theorem hid_nw_same {L : Addr} {B G G' : Hp} (s : Same G G') : Same (hid L (nw B G)) (nw B G') := fun b o e => nw_mono (Same.refl _) s _ _ (hid_le _ _ e)
theorem dim_nat {d : Int} (h : Dim d) : ∃ n : Nat, d = n ∧ 1 ≤ n ∧ n ≤ 3 := by
  rcases h with rfl | rfl | rfl
  · exact ⟨1, rfl, by omega, by omega⟩
  · exact ⟨2, rfl, by omega, by omega⟩
  · exact ⟨3, rfl, by omega, by omega⟩
def unitR (n a : Nat) : List Int := (List.range n).map fun s => if ((s : Nat) : Int) = a then 1 else 0
theorem corn_eq {n : Nat} (h1 : 1 ≤ n) (h3 : n ≤ 3) : (cornD n).map tupI = tupI (List.replicate n 0) :: (List.range n).map fun a => tupI (unitR n a) := by
  rcases (by omega : n = 1 ∨ n = 2 ∨ n = 3) with rfl | rfl | rfl <;> rfl
theorem zero_tup {K : PySem.W.Frag} {H0 : Hp} {n : Nat} (h1 : 1 ≤ n) (h3 : n ≤ 3) {H : Hp} {p : Addr} {Q : VK} (hB : Same H0 H) (np : H0 p = none) (hp : H p = some (.tup [V.int 0]))
    (q : ∀ v H', Same H H' → Dp K (nw H0 H') v (tupI (List.replicate n 0)) → Q v H') : oMulU K (.ref p) (.int n) H Q := by
  refine Or.inr ⟨p, n, _, rfl, rfl, SqT.of hp, by omega, by omega, by simp, fun h => ?_, fun _ h r hr => ?_⟩
  · have e : n = 1 := by
      rcases h with h | h
      · cases h
      · omega
    subst e
    exact q _ _ (Same.refl _) (.tup (SqT.of (nw_at np hp)) (.cons (.int 0) .nil))
  · have nr : H0 r = none := same_none hB hr
    refine q _ _ (same_new hr) (.tup (SqT.of (nw_at nr upd_same)) ?_)
    rcases (by omega : n = 1 ∨ n = 2 ∨ n = 3) with rfl | rfl | rfl
    · exact absurd rfl h
    · exact .cons (.int 0) (.cons (.int 0) .nil)
    · exact .cons (.int 0) (.cons (.int 0) (.cons (.int 0) .nil))
theorem pu_corners_in {K : PySem.W.Frag} : ∀ vs H Q E, sp_corners_in K vs H Q E → t_corners_in K { nx := fun _ H' => Q .non H', rt := Q } (start n_corners_in vs) H := by
  rintro vs H Q E ⟨d, rfl, hd, q⟩
  obtain ⟨n, rfl, n1, n3⟩ := dim_nat hd
  rw [corn_eq n1 n3] at q
  walk_at "s"
  intro p hp
  walk_at "new"
  intro H1 h1 s1
  walk_at "s"
  refine zero_tup n1 n3 s1 hp h1 fun z H2 s2 dz => ?_
  walk_at "s"
  intro L hL
  walk_at "new"
  intro H3 h3 s3
  have nL : H L = none := same_none (s1.trans s2) hL
  walk_at "s"
  refine ⟨n, rfl, by omega, by omega, ?_⟩
  refine for_it walk_range (fun i σ G => (∃ v2 v3, σ = [some (V.int n), some (V.ref L), v2, v3]) ∧ Same H G ∧ ∃ ys, G L = some (.lst ys) ∧ DpAll K (hid L (nw H G)) ys (tupI (List.replicate n 0) :: (List.range i).map fun a => tupI (unitR n a))) ?_ (fun _ _ _ _ _ => trivial) ?_ ?_
  · have s02 : Same H H2 := s1.trans s2
    exact ⟨⟨_, _, rfl⟩, s02.trans s3, _, h3, .cons (dp_le (hid_of (by unfold nw; rw [nL]; exact hL) (nw_mono (Same.refl _) s3)) _ _ dz) .nil⟩
  · rintro i x σ G G' hi ⟨⟨v2, v3, rfl⟩, sG, ys, eL, a⟩ ⟨rfl, rfl⟩
    walk_at "s"
    refine ⟨Or.inl ⟨rfl, _, SqL.of eL⟩, ?_⟩
    walk_at "s"
    refine ⟨n, rfl, by omega, by omega, ?_⟩
    intro D hD
    have nz : (n : Int).toNat ≤ sizeLine := line1000 (by omega)
    refine lc_D (K := K) walk_range H (fun s => some (.int (if ((s : Nat) : Int) = i then 1 else 0))) hD sG nz (fun _ _ => trivial) (fun _ _ _ _ _ y => by obtain ⟨rfl, _⟩ := y; exact Same.refl _) ?_ ?_
    · rintro s x G G2 Q' R hs sg _ ⟨rfl, rfl⟩ k1 _
      walk_at "s"
      have z := k1 G2 _ _ (Same.refl _) rfl (.int _)
      simpa using z
    · intro G2 s2 _ dD
      obtain ⟨_, xs, e, sq, dx⟩ := dp_lst dD
      cases e
      rw [filt_some] at dx
      walk_at "s"
      refine ⟨xs, Or.inl ⟨nw_le.seq sq, fun r hr => ?_⟩⟩
      walk_at "new"
      intro G3 h3' s3'
      have eL3 := s3' _ _ (s2 _ _ eL)
      walk_at "s"
      have el : ys.length = i + 1 := by rw [dpa_len a]; simp
      refine ⟨L, ys, _, rfl, rfl, eL3, line1000' (by omega), ?_⟩
      walk_at "put"
      intro G4 h4 k4
      have nr : H r = none := same_none (sG.trans s2) hr
      have nLr : r ≠ L := fun e => by rw [e, s2 _ _ eL] at hr; cases hr
      walk_at "s"
      have s04 : Same H G4 := fun b o e => k4 _ _ (fun z => by rw [z, nL] at e; cases e) (s3' _ _ (s2 _ _ (sG _ _ e)))
      refine ⟨⟨_, _, rfl⟩, s04, _, h4, ?_⟩
      rw [List.range_succ, List.map_append, ← List.cons_append]
      refine dpa_snoc (dpa_le ?_ _ _ a) ?_
      · exact hid_kp fun b o n e => k4 _ _ n (s3' _ _ (s2 _ _ e))
      · have ex : xs = (unitR n i).map V.int := dpa_ints (H := nw H G2) (K := K) (by unfold unitR; rw [List.map_map]; exact dx)
        rw [ex] at h3'
        exact .tup (SqT.of (hid_at nLr (nw_at nr (k4 _ _ nLr h3')))) (dpa_int' _)
  · rintro σ G ⟨⟨v2, v3, rfl⟩, sG, ys, eL, a⟩
    walk_at "s"
    refine ⟨ys, Or.inl ⟨SqL.of eL, fun r hr => ?_⟩⟩
    walk_at "new"
    intro G3 h3' s3'
    walk_at "s"
    refine q _ _ (sG.trans s3') (.tup (SqT.of (nw_at (same_none sG hr) h3')) (dpa_le (hid_nw_same s3') _ _ a))

def endsD (d : Int) : List (Nat × Nat) := if d = 1 then [(0, 1)] else if d = 2 then [(0, 1), (0, 2), (1, 2)] else [(0, 1), (0, 2), (0, 3), (1, 2), (2, 3), (3, 1)]
def endP (e : Nat × Nat) : PyData := .tuple [.int e.1, .int e.2]
theorem range_at {α : Type} (l : List α) : (List.range l.length).filterMap (fun i => l[i]?) = l := by
  induction l with
  | nil => rfl
  | cons a l ih =>
    rw [List.length_cons, List.range_succ_eq_map, List.filterMap_cons, List.filterMap_map]
    exact congrArg (a :: ·) ih
theorem ends_at {K : PySem.W.Frag} (F : EF K) {d : Int} (h : Dim d) : ∃ kvs, kdI K (He.ga K "ENDS") kvs = true ∧ kgI kvs d = some (.tuple ((endsD d).map endP)) := by
  refine ⟨_, F.k_ENDS, ?_⟩
  rcases h with rfl | rfl | rfl <;> rfl
theorem edge_at {d : Int} (h : Dim d) : ∀ (i a b : Nat), (endsD d)[i]? = some (a, b) → ∃ p q, (cornD d)[a]? = some p ∧ (cornD d)[b]? = some q ∧ (edgeD d)[i]? = some [p, q] := by
  rcases h with rfl | rfl | rfl
  · intro i a b e
    match i, e with
    | 0, e => cases e; exact ⟨_, _, rfl, rfl, rfl⟩
    | n + 1, e => cases e
  · intro i a b e
    match i, e with
    | 0, e => cases e; exact ⟨_, _, rfl, rfl, rfl⟩
    | 1, e => cases e; exact ⟨_, _, rfl, rfl, rfl⟩
    | 2, e => cases e; exact ⟨_, _, rfl, rfl, rfl⟩
    | n + 3, e => cases e
  · intro i a b e
    match i, e with
    | 0, e => cases e; exact ⟨_, _, rfl, rfl, rfl⟩
    | 1, e => cases e; exact ⟨_, _, rfl, rfl, rfl⟩
    | 2, e => cases e; exact ⟨_, _, rfl, rfl, rfl⟩
    | 3, e => cases e; exact ⟨_, _, rfl, rfl, rfl⟩
    | 4, e => cases e; exact ⟨_, _, rfl, rfl, rfl⟩
    | 5, e => cases e; exact ⟨_, _, rfl, rfl, rfl⟩
    | n + 6, e => cases e
theorem edge_len {d : Int} (h : Dim d) : (endsD d).length = (edgeD d).length ∧ (edgeD d).length ≤ 6 := by
  rcases h with rfl | rfl | rfl <;> exact ⟨rfl, by decide⟩
theorem pu_edges_in {K : PySem.W.Frag} (F : EF K) : ∀ vs H Q E, sp_edges_in K vs H Q E → t_edges_in K { nx := fun _ H' => Q .non H', rt := Q } (start n_edges_in vs) H := by
  rintro vs H Q E ⟨d, rfl, hd, q⟩
  walk_at "s"
  refine ⟨d, rfl, hd, fun told H1 s1 dt => ?_⟩
  walk_at "s"
  refine Or.inr (Or.inl ?_)
  walk_at "s"
  obtain ⟨kvs, hk, hg⟩ := ends_at F hd
  refine ⟨kvs, _, hk, hg, fun es des => ?_⟩
  obtain ⟨ea, exs, rfl, esq, edp⟩ := dp_tup (des H1)
  refine ⟨ea, rfl, ⟨exs, esq⟩, ?_⟩
  walk_at "s"
  intro D hD
  obtain ⟨_, ts, rfl, tsq, tdp⟩ := dp_tup dt
  obtain ⟨el, e6⟩ := edge_len hd
  have exl : exs.length = (edgeD d).length := by rw [dpa_len edp, List.length_map, el]
  refine lc_D (K := K) walk_tup H (fun i => ((edgeD d).map seg)[i]?) hD s1 (line1000 (by omega)) (fun G s => same_seqT s esq) (fun _ _ _ _ _ y => by obtain ⟨rfl, _⟩ := y; exact Same.refl _) ?_ ?_
  · rintro i x G G2 Q' R hi sg ⟨zs, hz⟩ ⟨rfl, hx⟩ k1 _
    obtain ⟨ab, hab⟩ : ∃ ab, (endsD d)[i]? = some ab := ⟨_, List.getElem?_eq_getElem (by omega)⟩
    obtain ⟨a, b⟩ := ab
    obtain ⟨pa, pb, ha, hb, he⟩ := edge_at hd i a b hab
    obtain ⟨x', hx', dx⟩ := dpa_at (i := i) (d := endP (a, b)) edp (by rw [List.getElem?_map, hab]; rfl)
    rw [hx] at hx'
    cases hx'
    obtain ⟨xa, xx, rfl, xsq, xdp⟩ := dp_tup dx
    have exx : xx = [V.int a, V.int b] := dpa_ints (ns := [(a : Int), (b : Int)]) xdp
    subst exx
    walk_at "s"
    refine ⟨xa, _, rfl, same_seqT sg xsq, rfl, _, _, rfl, ?_⟩
    walk_at "s"
    refine ⟨_, _, rfl, ?_⟩
    walk_at "s"
    obtain ⟨u, hu, du⟩ := dpa_at (i := a) (d := tupI pa) tdp (by rw [List.getElem?_map, ha]; rfl)
    obtain ⟨v, hv, dv⟩ := dpa_at (i := b) (d := tupI pb) tdp (by rw [List.getElem?_map, hb]; rfl)
    refine Or.inl ⟨ts, _, u, rfl, Or.inr (same_seqT (nw_le.trans sg) tsq), atI_nat hu, ?_⟩
    walk_at "s"
    refine Or.inl ⟨ts, _, v, rfl, Or.inr (same_seqT (nw_le.trans sg) tsq), atI_nat hv, ?_⟩
    walk_at "s"
    intro r hr
    have nr : H r = none := same_none (s1.trans sg) hr
    have nrD : r ≠ D := fun e => by rw [e, hz] at hr; cases hr
    have old : ∀ {w e}, Dp K (nw H H1) w e → Dp K (hid D (nw H (upd G2 r (.tup [u, v])))) w e := fun {w e} h => dp_le (hid_of (by unfold nw; rw [same_none s1 hD]; exact hD) (nw_mono (Same.refl _) (sg.trans (same_new hr)))) _ _ h
    exact k1 _ _ (seg [pa, pb]) (same_new hr) (by rw [List.getElem?_map, he]; rfl) (.tup (SqT.of (hid_at nrD (nw_at nr upd_same))) (.cons (old du) (.cons (old dv) .nil)))
  · intro G sg _ dD
    rw [exl, ← List.length_map (f := seg), range_at] at dD
    obtain ⟨_, xs, e, sq, dx⟩ := dp_lst dD
    cases e
    walk_at "s"
    refine ⟨xs, Or.inl ⟨nw_le.seq sq, fun r hr => ?_⟩⟩
    walk_at "s"
    exact q _ _ ((s1.trans sg).trans (same_new hr)) (.tup (SqT.of (nw_at (same_none (s1.trans sg) hr) upd_same)) (dpa_le (nw_mono (Same.refl _) (same_new hr)) _ _ dx))

theorem eqvAll_ints : ∀ a b : List Int, PyData.eqvAll (a.map PyData.int) (b.map PyData.int) = decide (a = b)
  | [], [] => by simp [PyData.eqvAll]
  | [], y :: b => by simp [PyData.eqvAll]
  | x :: a, [] => by simp [PyData.eqvAll]
  | x :: a, y :: b => by
    have ih := eqvAll_ints a b
    rw [List.map_cons, List.map_cons, PyData.eqvAll, ih]
    by_cases h1 : x = y <;> by_cases h2 : a = b <;> simp [PyData.eqv, h1, h2]
theorem eqv_tupI (a b : List Int) : PyData.eqv (tupI a) (tupI b) = decide (a = b) := by
  unfold tupI
  rw [PyData.eqv, eqvAll_ints]
theorem any_tupI (e : List (List Int)) (p : List Int) : ((e.map tupI).any fun z => PyData.eqv z (tupI p)) = decide (p ∈ e) := by
  rw [List.any_map]
  induction e with
  | nil => simp
  | cons a l ih =>
    rw [List.any_cons, ih]
    show (PyData.eqv (tupI a) (tupI p) || _) = _
    rw [eqv_tupI]
    by_cases h : a = p
    · simp [h]
    · simp [h, Ne.symm h]
theorem shp_tupI (a : List Int) : SeqAt.shaped (tupI a) = true := shp_tup (lay_ints a) (by rw [dep_ints]; omega)
theorem lay_seg : ∀ e : List (List Int), PyData.canLayAll0 (e.map tupI) = true
  | [] => by simp [PyData.canLayAll0]
  | a :: e => by
    have h := lay_ints a
    simp [PyData.canLayAll0, PyData.canLay0, tupI, lay_seg e, h]
theorem dep_seg : ∀ e : List (List Int), PyData.depthAll (e.map tupI) ≤ 1
  | [] => by simp [PyData.depthAll]
  | a :: e => by
    have h := dep_seg e
    have h2 : PyData.depth (tupI a) = 1 := by unfold tupI; rw [PyData.depth, dep_ints]
    rw [List.map_cons, PyData.depthAll, h2]
    omega
theorem shp_seg (e : List (List Int)) : SeqAt.shaped (seg e) = true := shp_tup (lay_seg e) (by have := dep_seg e; omega)
/-- the ends of an edge are none of the told one's -/
def offE (told : List (List Int)) (e : List (List Int)) : Bool := !decide (e.getD 0 [] ∈ told) && !decide (e.getD 1 [] ∈ told)
theorem dp_seg {K : PySem.W.Frag} {H : Hp} {v : V} {e : List (List Int)} (h : Dp K H v (seg e)) : ∃ a xs, v = .ref a ∧ SqT K H a xs ∧ DpAll K H xs (e.map tupI) := dp_tup h
theorem at_seg {K : PySem.W.Frag} {H : Hp} {xs : List V} {e : List (List Int)} (h : DpAll K H xs (e.map tupI)) (i : Nat) {p : List Int} (hp : e[i]? = some p) : ∃ u, xs[i]? = some u ∧ Dp K H u (tupI p) :=
  dpa_at h (by rw [List.getElem?_map, hp]; rfl)
def selE (d : Int) (e0 : List (List Int)) (i : Nat) : Option PyData := (edgeD d)[i]?.bind fun e => if offE e0 e then some (seg e) else none
def selC (d : Int) (e0 : List (List Int)) (i : Nat) : Option PyData := (cornD d)[i]?.bind fun p => if decide (p ∈ e0) then none else some (tupI p)
theorem opp3 {i : Nat} (h : i < 6) {e : List (List Int)} (he : (edgeD 3)[i]? = some e) : ((List.range 6).filterMap (selE 3 e))[0]? = some (seg (oppL 3 i)) := by
  match i, h with
  | 0, _ => cases he; rfl
  | 1, _ => cases he; rfl
  | 2, _ => cases he; rfl
  | 3, _ => cases he; rfl
  | 4, _ => cases he; rfl
  | 5, _ => cases he; rfl
theorem two3 : ∀ (i : Nat) (e : List (List Int)), (edgeD 3)[i]? = some e → ∃ a b, e = [a, b] := by
  intro i e h
  match i, h with
  | 0, h => cases h; exact ⟨_, _, rfl⟩
  | 1, h => cases h; exact ⟨_, _, rfl⟩
  | 2, h => cases h; exact ⟨_, _, rfl⟩
  | 3, h => cases h; exact ⟨_, _, rfl⟩
  | 4, h => cases h; exact ⟨_, _, rfl⟩
  | 5, h => cases h; exact ⟨_, _, rfl⟩
  | n + 6, h => cases h
theorem opp12 {d : Int} (hd : d = 1 ∨ d = 2) {i : Nat} (h : (i : Int) < widD d) {e : List (List Int)} (he : (edgeD d)[i]? = some e) : (List.range (cornD d).length).filterMap (selC d e) = (oppL d i).map tupI := by
  rcases hd with rfl | rfl
  · have : i = 0 := by have h : (i : Int) < 1 := h; omega
    subst this
    cases he
    rfl
  · have h : (i : Int) < 3 := h
    rcases (by omega : i = 0 ∨ i = 1 ∨ i = 2) with rfl | rfl | rfl <;> (cases he; rfl)
theorem pu_opposite_in {K : PySem.W.Frag} : ∀ vs H Q E, sp_opposite_in K vs H Q E → t_opposite_in K { nx := fun _ H' => Q .non H', rt := Q } (start n_opposite_in vs) H := by
  rintro vs H Q E ⟨d, at_, rfl, hd, a0, a1, q⟩
  walk_at "s"
  refine ⟨d, rfl, hd, fun told H1 s1 dt => ?_⟩
  obtain ⟨tw, ts, rfl, tsq, tdp⟩ := dp_tup dt
  obtain ⟨i0, rfl⟩ : ∃ i : Nat, at_ = i := ⟨at_.toNat, by omega⟩
  have le0 : i0 < (edgeD d).length := by
    rcases hd with rfl | rfl | rfl
    · have a1 : (i0 : Int) < 1 := a1; show i0 < 1; omega
    · have a1 : (i0 : Int) < 3 := a1; show i0 < 3; omega
    · have a1 : (i0 : Int) < 6 := a1; show i0 < 6; omega
  obtain ⟨e0, he0⟩ : ∃ e, (edgeD d)[i0]? = some e := ⟨_, List.getElem?_eq_getElem le0⟩
  obtain ⟨te, hte, dte⟩ := dpa_at (i := i0) (d := seg e0) tdp (by rw [List.getElem?_map, he0]; rfl)
  have tl : ts.length = (edgeD d).length := by rw [dpa_len tdp, List.length_map]
  have told_at : ∀ {G : Hp}, Same H1 G → atI ts (i0 : Int) = some te ∧ SqT K G tw ts ∧ Dp K G te (seg e0) := fun s => ⟨atI_nat hte, same_seqT (nw_le.trans s) tsq, dp_le (nw_le.trans s) _ _ dte⟩
  walk_at "s"
  walk_at "if"
  · intro h
    cases (V.int.inj h)
    walk_at "s"
    refine Or.inr (Or.inl ?_)
    walk_at "s"
    refine ⟨tw, rfl, ⟨_, same_seqT nw_le tsq⟩, ?_⟩
    walk_at "s"
    intro D hD
    refine lc_D (K := K) walk_tup H (selE 3 e0) hD s1 (line1000 (by rw [tl]; decide)) (fun G s => same_seqT (nw_le.trans s) tsq) (fun _ _ _ _ _ y => by obtain ⟨rfl, _⟩ := y; exact Same.refl _) ?_ ?_
    · rintro i x G G2 Q' R hi sg _ ⟨rfl, hx⟩ k1 k2
      obtain ⟨e, he⟩ : ∃ e, (edgeD 3)[i]? = some e := ⟨_, List.getElem?_eq_getElem (by omega)⟩
      obtain ⟨p0, p1, rfl⟩ := two3 i e he
      obtain ⟨x', hx', dx⟩ := dpa_at (i := i) (d := seg [p0, p1]) tdp (by rw [List.getElem?_map, he]; rfl)
      rw [hx] at hx'
      cases hx'
      have dxg := dp_le (nw_le.trans sg) _ _ dx
      obtain ⟨xa, xs, rfl, xsq, xdp⟩ := dp_seg dxg
      obtain ⟨u0, hu0, du0⟩ := at_seg xdp 0 (p := p0) rfl
      obtain ⟨u1, hu1, du1⟩ := at_seg xdp 1 (p := p1) rfl
      obtain ⟨t1, t2, t3⟩ := told_at sg
      obtain ⟨ea, es, rfl, esq, edp⟩ := dp_seg t3
      walk_at "s"
      refine Or.inl ⟨xs, 0, u0, rfl, Or.inr xsq, atI_nat hu0, ?_⟩
      walk_at "s"
      refine Or.inl ⟨ts, _, _, rfl, Or.inr t2, t1, ?_⟩
      refine Or.inr ⟨tupI p0, e0.map tupI, du0, t3, shp_tupI _, shp_seg _, ?_⟩
      rw [any_tupI]
      have fi : selE 3 e0 i = if offE e0 [p0, p1] then some (seg [p0, p1]) else none := by unfold selE; rw [he]; rfl
      have keep : offE e0 [p0, p1] = true → Q' (.ref xa) G2 := fun h => k1 G2 _ (seg [p0, p1]) (Same.refl _) (by rw [fi, h]; rfl) (dp_le (hid_of (nw_none hD) (nw_mono (Same.refl _) sg)) _ _ dx)
      have drop : offE e0 [p0, p1] = false → R G2 := fun h => k2 G2 (Same.refl _) (by rw [fi, h]; rfl)
      by_cases m0 : p0 ∈ e0
      · rw [decide_eq_true m0]
        walk_at "s"
        exact drop (by simp [offE, m0])
      · rw [decide_eq_false m0]
        walk_at "s"
        refine Or.inl ⟨xs, 1, u1, rfl, Or.inr xsq, atI_nat hu1, ?_⟩
        walk_at "s"
        refine Or.inl ⟨ts, _, _, rfl, Or.inr t2, t1, ?_⟩
        refine Or.inr ⟨tupI p1, e0.map tupI, du1, t3, shp_tupI _, shp_seg _, ?_⟩
        rw [any_tupI]
        by_cases m1 : p1 ∈ e0
        · rw [decide_eq_true m1]
          walk_at "s"
          exact drop (by simp [offE, m1])
        · rw [decide_eq_false m1]
          walk_at "s"
          exact keep (by simp [offE, m0, m1])
    · intro G sg _ dD
      obtain ⟨_, xs, e, sq, dx⟩ := dp_lst dD
      cases e
      rw [tl] at dx
      obtain ⟨v, hv, dv⟩ := dpa_at (i := 0) (d := seg (oppL 3 i0)) dx (opp3 (by show i0 < 6; exact le0) he0)
      walk_at "s"
      refine Or.inl ⟨xs, 0, v, rfl, Or.inl (nw_le.seq sq), atI_nat hv, ?_⟩
      walk_at "s"
      exact q _ _ (s1.trans sg) dv
  · intro h
    have hd2 : d = 1 ∨ d = 2 := by
      rcases hd with e | e | e
      · exact .inl e
      · exact .inr e
      · exact absurd (by rw [e]) h
    walk_at "s"
    refine Or.inr (Or.inl ?_)
    walk_at "s"
    refine ⟨d, rfl, hd, fun cs H2 s2 dc => ?_⟩
    obtain ⟨cw, cs, rfl, csq, cdp⟩ := dp_tup dc
    refine ⟨cw, rfl, ⟨_, same_seqT nw_le csq⟩, ?_⟩
    walk_at "s"
    intro D hD
    have cl : cs.length = (cornD d).length := by rw [dpa_len cdp, List.length_map]
    have c4 : (cornD d).length ≤ 4 := by rcases hd with rfl | rfl | rfl <;> decide
    have s12 := s1.trans s2
    refine lc_D (K := K) walk_tup H (selC d e0) hD s12 (line1000 (by omega)) (fun G s => same_seqT (nw_le.trans s) csq) (fun _ _ _ _ _ y => by obtain ⟨rfl, _⟩ := y; exact Same.refl _) ?_ ?_
    · rintro i x G G2 Q' R hi sg _ ⟨rfl, hx⟩ k1 k2
      obtain ⟨p, hp⟩ : ∃ p, (cornD d)[i]? = some p := ⟨_, List.getElem?_eq_getElem (by omega)⟩
      obtain ⟨x', hx', dx⟩ := at_seg (e := cornD d) cdp i hp
      rw [hx] at hx'
      cases hx'
      obtain ⟨t1, t2, t3⟩ := told_at (s2.trans sg)
      obtain ⟨ea, es, rfl, esq, edp⟩ := dp_seg t3
      walk_at "s"
      refine Or.inl ⟨ts, _, _, rfl, Or.inr t2, t1, ?_⟩
      refine Or.inr ⟨tupI p, e0.map tupI, dp_le (nw_le.trans sg) _ _ dx, t3, shp_tupI _, shp_seg _, ?_⟩
      rw [any_tupI]
      have fi : selC d e0 i = if decide (p ∈ e0) then none else some (tupI p) := by unfold selC; rw [hp]; rfl
      by_cases m0 : p ∈ e0
      · rw [decide_eq_true m0] at fi ⊢
        walk_at "s"
        exact k2 G2 (Same.refl _) fi
      · rw [decide_eq_false m0] at fi ⊢
        walk_at "s"
        exact k1 G2 _ _ (Same.refl _) fi (dp_le (hid_of (nw_none hD) (nw_mono s1 sg)) _ _ dx)
    · intro G sg _ dD
      obtain ⟨_, xs, e, sq, dx⟩ := dp_lst dD
      cases e
      rw [cl, opp12 hd2 a1 he0] at dx
      walk_at "s"
      refine ⟨xs, Or.inl ⟨nw_le.seq sq, fun r hr => ?_⟩⟩
      walk_at "s"
      exact q _ _ ((s12.trans sg).trans (same_new hr)) (.tup (SqT.of (nw_at (same_none (s12.trans sg) hr) upd_same)) (dpa_le (nw_mono (Same.refl _) (same_new hr)) _ _ dx))

theorem within_dim {v : V} (h : withinV 1 3 v = true) : ∃ d, v = .int d ∧ Dim d := by
  cases v with
  | int i =>
    refine ⟨i, rfl, ?_⟩
    unfold Dim
    simp [withinV] at h
    omega
  | _ => cases h
theorem pu_corners {K : PySem.W.Frag} : ∀ vs H Q E, sp_corners K vs H Q E → t_corners K E { nx := fun _ H' => Q .non H', rt := Q } (start n_corners vs) H := by
  rintro vs H Q E ⟨v, rfl, kn, q1, q2⟩
  walk_at "s"
  refine ⟨v, rfl, kn, fun h => ?_, fun h => q2 h⟩
  obtain ⟨d, rfl, hd⟩ := within_dim h
  walk_at "s"
  refine ⟨d, rfl, hd, fun z H' s dz => ?_⟩
  walk_at "s"
  exact q1 d rfl hd z H' s dz
theorem pu_edges {K : PySem.W.Frag} : ∀ vs H Q E, sp_edges K vs H Q E → t_edges K E { nx := fun _ H' => Q .non H', rt := Q } (start n_edges vs) H := by
  rintro vs H Q E ⟨v, rfl, kn, q1, q2⟩
  walk_at "s"
  refine ⟨v, rfl, kn, fun h => ?_, fun h => q2 h⟩
  obtain ⟨d, rfl, hd⟩ := within_dim h
  walk_at "s"
  refine ⟨d, rfl, hd, fun z H' s dz => ?_⟩
  walk_at "s"
  exact q1 d rfl hd z H' s dz
theorem within_wid {d : Int} {w : V} (hd : Dim d) (h : withinV 0 (widD d - 1) w = true) : ∃ a, w = .int a ∧ 0 ≤ a ∧ a < widD d := by
  cases w with
  | int i =>
    refine ⟨i, rfl, ?_⟩
    simp [withinV] at h
    omega
  | _ => cases h
theorem pu_opposite {K : PySem.W.Frag} : ∀ vs H Q E, sp_opposite K vs H Q E → t_opposite K E { nx := fun _ H' => Q .non H', rt := Q } (start n_opposite vs) H := by
  rintro vs H Q E ⟨v, w, rfl, kn, kw, q1, q2, q3⟩
  walk_at "s"
  refine ⟨v, rfl, kn, fun h => ?_, fun h => q2 h⟩
  obtain ⟨d, rfl, hd⟩ := within_dim h
  walk_at "s"
  refine ⟨d, rfl, hd, ?_⟩
  walk_at "s"
  refine ⟨w, 0, _, rfl, kw, ?_⟩
  cases e : withinV 0 (widD d - 1) w with
  | true =>
    obtain ⟨a, rfl, a0, a1⟩ := within_wid hd e
    walk_at "s"
    refine ⟨d, a, rfl, hd, a0, a1, fun z H' s dz => ?_⟩
    walk_at "s"
    exact q1 d a rfl rfl hd a0 a1 z H' s dz
  | false =>
    walk_at "s"
    exact fun dd hd' => q3 d rfl hd e dd hd'
theorem pu_law_corners {K : PySem.W.Frag} : ∀ vs H Q E, sp_law_corners K vs H Q E → t_law_corners K { nx := fun _ H' => Q .non H', rt := Q } (start n_law_corners vs) H := by
  rintro vs H Q E ⟨d, rfl, hd, q⟩
  obtain ⟨n, rfl, n1, n3⟩ := dim_nat hd
  rw [corn_eq n1 n3] at q
  walk_at "s"
  intro p hp
  walk_at "new"
  intro H1 h1 s1
  walk_at "s"
  refine zero_tup n1 n3 s1 hp h1 fun z H2 s2 dz => ?_
  walk_at "s"
  intro L hL
  walk_at "new"
  intro H3 h3 s3
  have nL : H L = none := same_none (s1.trans s2) hL
  have s03 := (s1.trans s2).trans s3
  walk_at "s"
  refine ⟨n, rfl, by omega, by omega, ?_⟩
  intro D hD
  have nz : (n : Int).toNat ≤ sizeLine := line1000 (by omega)
  refine lc_D (K := K) walk_range H (fun a => some (tupI (unitR n a))) hD s03 nz (fun _ _ => trivial) (fun _ _ _ _ _ y => by obtain ⟨rfl, _⟩ := y; exact Same.refl _) ?_ ?_
  · rintro i x G G2 Q' R hi sg ⟨zs, hz⟩ ⟨rfl, rfl⟩ k1 _
    walk_at "s"
    refine ⟨n, rfl, by omega, by omega, ?_⟩
    intro D2 hD2
    refine lc_D (K := K) walk_range H (fun s => some (.int (if ((s : Nat) : Int) = i then 1 else 0))) hD2 (s03.trans sg) nz (fun _ _ => trivial) (fun _ _ _ _ _ y => by obtain ⟨rfl, _⟩ := y; exact Same.refl _) ?_ ?_
    · rintro s x G3 G4 Q2 R2 hs sg2 _ ⟨rfl, rfl⟩ k3 _
      walk_at "s"
      have z := k3 G4 _ _ (Same.refl _) rfl (.int _)
      simpa [eq_comm] using z
    · intro G3 sg2 _ dD
      obtain ⟨_, xs, e, sq, dx⟩ := dp_lst dD
      cases e
      rw [filt_some] at dx
      have ex : xs = (unitR n i).map V.int := dpa_ints (H := nw H G3) (K := K) (by unfold unitR; rw [List.map_map]; exact dx)
      walk_at "s"
      refine ⟨xs, Or.inl ⟨nw_le.seq sq, fun r hr => ?_⟩⟩
      walk_at "s"
      have nrD : r ≠ D := fun e => by rw [e, sg2 _ _ hz] at hr; cases hr
      refine k1 _ _ _ (sg2.trans (same_new hr)) rfl (.tup (SqT.of (hid_at nrD (nw_at (same_none ((s03.trans sg).trans sg2) hr) upd_same))) ?_)
      rw [ex]
      exact dpa_int' _
  · intro G sg hL dD
    obtain ⟨xs, hx, dx⟩ := hL
    rw [filt_some] at dx
    have xl : xs.length = n := by rw [dpa_len dx]; simp
    walk_at "s"
    refine ⟨L, D, [z], xs, rfl, rfl, sg _ _ h3, hx, line1000 (by simp; omega), fun r hr => ?_⟩
    walk_at "s"
    refine q _ _ ((s03.trans sg).trans (same_new hr)) (.lst (SqL.of (nw_at (same_none (s03.trans sg) hr) upd_same)) ?_)
    refine dpa_le (nw_mono (Same.refl _) (same_new hr)) _ _ (.cons (dp_le (nw_mono (Same.refl _) (s3.trans sg)) _ _ dz) dx)

theorem dp_pair {K : PySem.W.Frag} {B G : Hp} {t : Addr} {a b : Nat} (n : B t = none) (h : G t = some (.tup [.int a, .int b])) : Dp K (nw B G) (.ref t) (endP (a, b)) :=
  .tup (SqT.of (nw_at n h)) (.cons (.int a) (.cons (.int b) .nil))
theorem pu_law_edges {K : PySem.W.Frag} : ∀ vs H Q E, sp_law_edges K vs H Q E → t_law_edges K { nx := fun _ H' => Q .non H', rt := Q } (start n_law_edges vs) H := by
  rintro vs H Q E ⟨d, rfl, hd, q⟩
  refine asgG (fun v H' => Same H H' ∧ Dp K (nw H H') v (.list ((endsD d).map endP))) ?_ ?_
  · intro Q' k
    walk_at "s"
    intro a1 e1
    walk_at "new"
    intro G1 i1 g1
    have n1 : H a1 = none := same_none (Same.refl H) e1
    have s1 : Same H G1 := g1
    walk_at "s"
    intro a2 e2
    walk_at "new"
    intro G2 i2 g2
    have n2 : H a2 = none := same_none s1 e2
    have s2 : Same H G2 := s1.trans g2
    walk_at "s"
    intro a3 e3
    walk_at "new"
    intro G3 i3 g3
    have n3 : H a3 = none := same_none s2 e3
    have s3 : Same H G3 := s2.trans g3
    walk_at "s"
    intro a4 e4
    walk_at "new"
    intro G4 i4 g4
    have n4 : H a4 = none := same_none s3 e4
    have s4 : Same H G4 := s3.trans g4
    walk_at "s"
    intro a5 e5
    walk_at "new"
    intro G5 i5 g5
    have n5 : H a5 = none := same_none s4 e5
    have s5 : Same H G5 := s4.trans g5
    walk_at "s"
    intro a6 e6
    walk_at "new"
    intro G6 i6 g6
    have n6 : H a6 = none := same_none s5 e6
    have s6 : Same H G6 := s5.trans g6
    walk_at "s"
    intro a7 e7
    walk_at "new"
    intro G7 i7 g7
    have n7 : H a7 = none := same_none s6 e7
    have s7 : Same H G7 := s6.trans g7
    walk_at "s"
    intro a8 e8
    walk_at "new"
    intro G8 i8 g8
    have n8 : H a8 = none := same_none s7 e8
    have s8 : Same H G8 := s7.trans g8
    walk_at "s"
    intro a9 e9
    walk_at "new"
    intro G9 i9 g9
    have n9 : H a9 = none := same_none s8 e9
    have s9 : Same H G9 := s8.trans g9
    walk_at "s"
    intro a10 e10
    walk_at "new"
    intro G10 i10 g10
    have n10 : H a10 = none := same_none s9 e10
    have s10 : Same H G10 := s9.trans g10
    walk_at "s"
    intro a11 e11
    walk_at "new"
    intro G11 i11 g11
    have n11 : H a11 = none := same_none s10 e11
    have s11 : Same H G11 := s10.trans g11
    walk_at "s"
    intro a12 e12
    walk_at "new"
    intro G12 i12 g12
    have n12 : H a12 = none := same_none s11 e12
    have s12 : Same H G12 := s11.trans g12
    walk_at "s"
    intro a13 e13
    walk_at "new"
    intro G13 i13 g13
    have n13 : H a13 = none := same_none s12 e13
    have s13 : Same H G13 := s12.trans g13
    walk_at "s"
    intro a14 e14
    walk_at "new"
    intro G14 i14 g14
    have n14 : H a14 = none := same_none s13 e14
    have s14 : Same H G14 := s13.trans g14
    walk_at "s"
    rcases hd with rfl | rfl | rfl
    · refine Or.inl ⟨_, 0, _, rfl, Or.inl (SqL.of i14), rfl, ?_⟩
      refine k _ _ ⟨s14, .lst (SqL.of (nw_at n2 (g14 _ _ (g13 _ _ (g12 _ _ (g11 _ _ (g10 _ _ (g9 _ _ (g8 _ _ (g7 _ _ (g6 _ _ (g5 _ _ (g4 _ _ (g3 _ _ (i2))))))))))))))) ?_⟩
      exact .cons (dp_pair n1 (g14 _ _ (g13 _ _ (g12 _ _ (g11 _ _ (g10 _ _ (g9 _ _ (g8 _ _ (g7 _ _ (g6 _ _ (g5 _ _ (g4 _ _ (g3 _ _ (g2 _ _ (i1))))))))))))))) (.nil)
    · refine Or.inl ⟨_, 1, _, rfl, Or.inl (SqL.of i14), rfl, ?_⟩
      refine k _ _ ⟨s14, .lst (SqL.of (nw_at n6 (g14 _ _ (g13 _ _ (g12 _ _ (g11 _ _ (g10 _ _ (g9 _ _ (g8 _ _ (g7 _ _ (i6))))))))))) ?_⟩
      exact .cons (dp_pair n3 (g14 _ _ (g13 _ _ (g12 _ _ (g11 _ _ (g10 _ _ (g9 _ _ (g8 _ _ (g7 _ _ (g6 _ _ (g5 _ _ (g4 _ _ (i3))))))))))))) (.cons (dp_pair n4 (g14 _ _ (g13 _ _ (g12 _ _ (g11 _ _ (g10 _ _ (g9 _ _ (g8 _ _ (g7 _ _ (g6 _ _ (g5 _ _ (i4)))))))))))) (.cons (dp_pair n5 (g14 _ _ (g13 _ _ (g12 _ _ (g11 _ _ (g10 _ _ (g9 _ _ (g8 _ _ (g7 _ _ (g6 _ _ (i5))))))))))) (.nil)))
    · refine Or.inl ⟨_, 2, _, rfl, Or.inl (SqL.of i14), rfl, ?_⟩
      refine k _ _ ⟨s14, .lst (SqL.of (nw_at n13 (g14 _ _ (i13)))) ?_⟩
      exact .cons (dp_pair n7 (g14 _ _ (g13 _ _ (g12 _ _ (g11 _ _ (g10 _ _ (g9 _ _ (g8 _ _ (i7))))))))) (.cons (dp_pair n8 (g14 _ _ (g13 _ _ (g12 _ _ (g11 _ _ (g10 _ _ (g9 _ _ (i8)))))))) (.cons (dp_pair n9 (g14 _ _ (g13 _ _ (g12 _ _ (g11 _ _ (g10 _ _ (i9))))))) (.cons (dp_pair n10 (g14 _ _ (g13 _ _ (g12 _ _ (g11 _ _ (i10)))))) (.cons (dp_pair n11 (g14 _ _ (g13 _ _ (g12 _ _ (i11))))) (.cons (dp_pair n12 (g14 _ _ (g13 _ _ (i12)))) (.nil))))))
  · rintro es H1 ⟨s1, des⟩
    walk_at "s"
    refine ⟨d, rfl, hd, fun told H2 s2 dt => ?_⟩
    walk_at "s"
    obtain ⟨_, ts, rfl, tsq, tdp⟩ := dp_lst dt
    obtain ⟨ea, exs, rfl, esq, edp⟩ := dp_lst des
    refine Or.inl ?_
    walk_at "s"
    have s12 := s1.trans s2
    refine ⟨ea, rfl, ⟨_, (nw_le.trans s2).seq esq⟩, ?_⟩
    walk_at "s"
    intro D hD
    obtain ⟨el, e6⟩ := edge_len hd
    have exl : exs.length = (edgeD d).length := by rw [dpa_len edp, List.length_map, el]
    refine lc_D (K := K) walk_list H (fun i => ((edgeD d).map seg)[i]?) hD s12 (line1000 (by omega)) (fun G s => (nw_le.trans (s2.trans s)).seq esq) (fun _ _ _ _ _ y => by obtain ⟨rfl, _⟩ := y; exact Same.refl _) ?_ ?_
    · rintro i x G G2 Q' R hi sg ⟨zs, hz⟩ ⟨rfl, hx⟩ k1 _
      obtain ⟨ab, hab⟩ : ∃ ab, (endsD d)[i]? = some ab := ⟨_, List.getElem?_eq_getElem (by omega)⟩
      obtain ⟨a, b⟩ := ab
      obtain ⟨pa, pb, ha, hb, he⟩ := edge_at hd i a b hab
      obtain ⟨x', hx', dx⟩ := dpa_at (i := i) (d := endP (a, b)) edp (by rw [List.getElem?_map, hab]; rfl)
      rw [hx] at hx'
      cases hx'
      obtain ⟨xa, xx, rfl, xsq, xdp⟩ := dp_tup (dp_le (nw_le.trans (s2.trans sg)) _ _ dx)
      have exx : xx = [V.int a, V.int b] := dpa_ints (ns := [(a : Int), (b : Int)]) xdp
      subst exx
      walk_at "s"
      refine ⟨xa, _, rfl, xsq, rfl, _, _, rfl, ?_⟩
      walk_at "s"
      refine ⟨_, _, rfl, ?_⟩
      walk_at "s"
      obtain ⟨u, hu, du⟩ := dpa_at (i := a) (d := tupI pa) tdp (by rw [List.getElem?_map, ha]; rfl)
      obtain ⟨v, hv, dv⟩ := dpa_at (i := b) (d := tupI pb) tdp (by rw [List.getElem?_map, hb]; rfl)
      refine Or.inl ⟨ts, _, u, rfl, Or.inl ((nw_le.trans sg).seq tsq), atI_nat hu, ?_⟩
      walk_at "s"
      refine Or.inl ⟨ts, _, v, rfl, Or.inl ((nw_le.trans sg).seq tsq), atI_nat hv, ?_⟩
      walk_at "s"
      intro r hr
      have nr : H r = none := same_none (s12.trans sg) hr
      have nrD : r ≠ D := fun e => by rw [e, hz] at hr; cases hr
      have old : ∀ {w e}, Dp K (nw H1 H2) w e → Dp K (hid D (nw H (upd G2 r (.tup [u, v])))) w e := fun {w e} h => dp_le (hid_of (nw_none hD) (nw_mono s1 (sg.trans (same_new hr)))) _ _ h
      exact k1 _ _ (seg [pa, pb]) (same_new hr) (by rw [List.getElem?_map, he]; rfl) (.tup (SqT.of (hid_at nrD (nw_at nr upd_same))) (.cons (old du) (.cons (old dv) .nil)))
    · intro G sg _ dD
      rw [exl, ← List.length_map (f := seg), range_at] at dD
      walk_at "s"
      exact q _ _ (s12.trans sg) dD

theorem pu_law_opposite {K : PySem.W.Frag} : ∀ vs H Q E, sp_law_opposite K vs H Q E → t_law_opposite K { nx := fun _ H' => Q .non H', rt := Q } (start n_law_opposite vs) H := by
  rintro vs H Q E ⟨d, at_, rfl, hd, a0, a1, q⟩
  obtain ⟨i0, rfl⟩ : ∃ i : Nat, at_ = i := ⟨at_.toNat, by omega⟩
  walk_at "s"
  walk_at "if"
  · intro h
    cases (V.int.inj h)
    have h6 : i0 < 6 := by have a1 : (i0 : Int) < 6 := a1; omega
    walk_at "s"
    refine ⟨3, rfl, hd, fun es H1 s1 des => ?_⟩
    obtain ⟨_, xs, rfl, sq, dx⟩ := dp_lst des
    walk_at "s"
    intro p hp
    walk_at "new"
    intro H2 h2 s2
    walk_at "s"
    obtain ⟨j, hj1, hj2⟩ : ∃ j : Nat, atI [V.int 4, V.int 5, V.int 3, V.int 2, V.int 0, V.int 1] (i0 : Int) = some (V.int j) ∧ (edgeD 3)[j]? = some (oppL 3 i0) := by
      rcases (by omega : i0 = 0 ∨ i0 = 1 ∨ i0 = 2 ∨ i0 = 3 ∨ i0 = 4 ∨ i0 = 5) with rfl | rfl | rfl | rfl | rfl | rfl
      · exact ⟨4, rfl, rfl⟩
      · exact ⟨5, rfl, rfl⟩
      · exact ⟨3, rfl, rfl⟩
      · exact ⟨2, rfl, rfl⟩
      · exact ⟨0, rfl, rfl⟩
      · exact ⟨1, rfl, rfl⟩
    refine Or.inl ⟨_, _, _, rfl, Or.inl (SqL.of h2), hj1, ?_⟩
    obtain ⟨v, hv, dv⟩ := dpa_at (i := j) (d := seg (oppL 3 i0)) dx (by rw [List.getElem?_map, hj2]; rfl)
    walk_at "s"
    refine Or.inl ⟨xs, _, v, rfl, Or.inl ((nw_le.trans s2).seq sq), atI_nat hv, ?_⟩
    walk_at "s"
    exact q _ _ (s1.trans s2) (dp_le (nw_mono (Same.refl _) s2) _ _ dv)
  · intro h
    walk_at "s"
    intro t0 e0
    walk_at "new"
    intro G0 i0' g0
    walk_at "s"
    intro t1 e1
    walk_at "new"
    intro G1 i1 g1
    walk_at "s"
    intro t2 e2
    walk_at "new"
    intro G2 i2 g2
    walk_at "s"
    intro t3 e3
    walk_at "new"
    intro G3 i3 g3
    walk_at "s"
    intro t4 e4
    walk_at "new"
    intro G4 i4 g4
    walk_at "s"
    have n0 : H t0 = none := e0
    have n1 : H t1 = none := same_none g0 e1
    have n2 : H t2 = none := same_none (g0.trans g1) e2
    have n3 : H t3 = none := same_none ((g0.trans g1).trans g2) e3
    have s4 : Same H G4 := (((g0.trans g1).trans g2).trans g3).trans g4
    have c0 := g4 _ _ (g3 _ _ (g2 _ _ (g1 _ _ i0')))
    have c1 := g4 _ _ (g3 _ _ (g2 _ _ i1))
    have c2 := g4 _ _ (g3 _ _ i2)
    have c3 := g4 _ _ i3
    have lt : i0 = 0 ∨ i0 = 1 ∨ i0 = 2 := by
      rcases hd with rfl | rfl | rfl
      · have a1 : (i0 : Int) < 1 := a1; omega
      · have a1 : (i0 : Int) < 3 := a1; omega
      · exact absurd rfl h
    refine ⟨_, Or.inr ⟨SqT.of i4, fun hw => ?_, fun hw p hp => ?_⟩⟩
    · have nw3 : ¬ (HT.sIx 3 0 (some (i0 : Int)) = 0 ∧ HT.sIx 3 3 (some ((i0 : Int) + 1)) = 3) := by rcases lt with rfl | rfl | rfl <;> decide
      exact absurd hw nw3
    generalize hG : upd G4 p _ = G5
    have h5 := hG ▸ upd_same (H := G4) (a := p)
    have g5 : Same G4 G5 := hG ▸ same_new hp
    have np : H p = none := same_none s4 hp
    walk_at "s"
    intro L hL
    walk_at "new"
    intro G6 h6 g6
    walk_at "s"
    have s6 : Same H G6 := (s4.trans g5).trans g6
    rcases hd with rfl | rfl | rfl
    · refine Or.inl ⟨_, _, _, rfl, Or.inl (SqL.of h6), rfl, ?_⟩
      walk_at "s"
      exact q _ _ s6 (.tup (SqT.of (nw_at n0 (g6 _ _ (g5 _ _ c0)))) .nil)
    · refine Or.inl ⟨_, _, _, rfl, Or.inl (SqL.of h6), rfl, ?_⟩
      walk_at "s"
      refine q _ _ s6 (.tup (SqT.of (nw_at np (g6 _ _ h5))) ?_)
      have one : ∀ {t a b}, H t = none → G4 t = some (.tup [V.int a, V.int b]) → Dp K (nw H G6) (.ref t) (tupI [a, b]) := fun {t a b} n e => .tup (SqT.of (nw_at n (g6 _ _ (g5 _ _ e)))) (.cons (.int a) (.cons (.int b) .nil))
      rcases lt with rfl | rfl | rfl
      · exact .cons (one n1 c1) .nil
      · exact .cons (one n2 c2) .nil
      · exact .cons (one n3 c3) .nil
    · exact absurd rfl h

theorem dpa_bools {K : PySem.W.Frag} {H : Hp} : ∀ {vs : List V} {bs : List Bool}, DpAll K H vs (bs.map PyData.bool) → vs = bs.map V.bl
  | _, [], h => by cases h; rfl
  | _, b :: bs, h => by
    cases h with
    | cons a r => cases a; rw [dpa_bools r]; rfl
theorem tupD_tuple {n : Nat} {ds : List PyData} (h : tupD (n + 1) (.tuple ds) = true) : ds.length ≤ 1000 ∧ ∀ d ∈ ds, tupD n d = true := by
  unfold tupD at h
  obtain ⟨h1, h2⟩ := Bool.and_eq_true_iff.mp h
  exact ⟨of_decide_eq_true h1, List.all_eq_true.mp h2⟩
theorem tupD_cases {n : Nat} {d : PyData} (h : tupD (n + 1) d = true) : (∃ i, d = .int i) ∨ ∃ ds, d = .tuple ds := by
  cases d <;> simp [tupD] at h <;> first | exact .inl ⟨_, rfl⟩ | exact .inr ⟨_, rfl⟩
theorem pu_law_same {K : PySem.W.Frag} : ∀ n vs H Q E, sp_law_same K (n + 1) vs H Q E → t_law_same K n { nx := fun _ H' => Q .non H', rt := Q } (start n_law_same vs) H := by
  rintro n vs H Q E ⟨v, w, d, rfl, dv, dw, td, q⟩
  rcases tupD_cases td with ⟨i, rfl⟩ | ⟨ds, rfl⟩
  · cases dp_int dv
    cases dp_int dw
    walk_at "s"
    simpa using q H (Same.refl H)
  · obtain ⟨va, xs, rfl, vsq, vdp⟩ := dp_tup dv
    obtain ⟨wa, ys, rfl, wsq, wdp⟩ := dp_tup dw
    have el : xs.length = ys.length := by rw [dpa_len vdp, dpa_len wdp]
    walk_at "s"
    refine ⟨.tup, .tup wsq, ?_⟩
    walk_at "s"
    refine ⟨.tup, .tup vsq, ?_⟩
    walk_at "s"
    refine ⟨_, Or.inl ⟨xs, .inr vsq, rfl⟩, ?_⟩
    walk_at "s"
    refine ⟨_, Or.inl ⟨ys, .inr wsq, rfl⟩, ?_⟩
    walk_at "s"
    walk_at "if"
    · intro h
      exact absurd (by rw [el]) h
    intro _
    walk_at "s"
    refine ⟨_, Or.inl ⟨ys, .inr wsq, rfl⟩, ?_⟩
    walk_at "s"
    obtain ⟨l3, each⟩ := tupD_tuple td
    have yl : ys.length = ds.length := dpa_len wdp
    refine ⟨_, rfl, by omega, by omega, ?_⟩
    intro D hD
    have nz : ((ys.length : Nat) : Int).toNat ≤ sizeLine := line1000 (by omega)
    refine lc_D (K := K) walk_range H (fun _ => some (.bool true)) hD (Same.refl _) nz (fun _ _ => trivial) (fun _ _ _ _ _ y => by obtain ⟨rfl, _⟩ := y; exact Same.refl _) ?_ ?_
    · rintro i x G G2 Q' R hi sg _ ⟨rfl, rfl⟩ k1 _
      have hi2 : i < ds.length := by omega
      obtain ⟨e, he⟩ : ∃ e, ds[i]? = some e := ⟨_, List.getElem?_eq_getElem hi2⟩
      obtain ⟨u, hu, du⟩ := dpa_at vdp he
      obtain ⟨v, hv, dv'⟩ := dpa_at wdp he
      have ze : (0 : Int) + ((i : Nat) : Int) = (i : Nat) := by omega
      walk_at "s"
      refine Or.inl ⟨xs, _, u, rfl, .inr (same_seqT sg vsq), (by rw [ze]; exact atI_nat hu), ?_⟩
      walk_at "s"
      refine Or.inl ⟨ys, _, v, rfl, .inr (same_seqT sg wsq), (by rw [ze]; exact atI_nat hv), ?_⟩
      have te := each e (List.mem_of_getElem? he)
      cases n with
      | zero => cases te
      | succ m =>
        walk_at "s"
        exact ⟨u, v, e, rfl, dp_le sg _ _ du, dp_le sg _ _ dv', te, fun H' s => k1 H' _ _ s rfl (.bl true)⟩
    · intro G sg hL _
      obtain ⟨zs, hz, dz⟩ := hL
      have ez : zs = (List.replicate ds.length true).map V.bl := dpa_bools (H := nw H G) (K := K) (by
        rw [filt_some] at dz
        rw [List.map_replicate, ← yl]
        simpa [List.map_const'] using dz)
      walk_at "s"
      refine ⟨_, SqL.of (ez ▸ hz), ?_⟩
      have ea : (List.replicate ds.length true).all id = true := by simp
      rw [ea]
      exact q G sg

theorem units_eq (w : Nat) : unitsL w = (List.range w).map fun s => (List.range w).map fun t => if t = s then 1 else 0 := rfl
theorem pu_law_units {K : PySem.W.Frag} : ∀ vs H Q E, sp_law_units K vs H Q E → t_law_units K { nx := fun _ H' => Q .non H', rt := Q } (start n_law_units vs) H := by
  rintro vs H Q E ⟨w, rfl, w6, q⟩
  walk_at "s"
  refine ⟨w, rfl, by omega, by omega, ?_⟩
  intro D hD
  have nz : (w : Int).toNat ≤ sizeLine := line1000 (by omega)
  refine lc_D (K := K) walk_range H (fun s => some (.list (((List.range w).map fun t => if t = s then (1 : Int) else 0).map PyData.int))) hD (Same.refl _) nz (fun _ _ => trivial) (fun _ _ _ _ _ y => by obtain ⟨rfl, _⟩ := y; exact Same.refl _) ?_ ?_
  · rintro i x G G2 Q' R hi sg ⟨zs, hz⟩ ⟨rfl, rfl⟩ k1 _
    walk_at "s"
    refine ⟨w, rfl, by omega, by omega, ?_⟩
    intro D2 hD2
    refine lc_D (K := K) walk_range G2 (fun t => some (.int (if t = i then 1 else 0))) hD2 (Same.refl _) nz (fun _ _ => trivial) (fun _ _ _ _ _ y => by obtain ⟨rfl, _⟩ := y; exact Same.refl _) ?_ ?_
    · rintro t x G3 G4 Q2 R2 ht sg2 _ ⟨rfl, rfl⟩ k3 _
      walk_at "s"
      have z := k3 G4 _ _ (Same.refl _) rfl (.int _)
      by_cases e : t = i
      · subst e
        simpa using z
      · have e' : ¬ ((t : Nat) : Int) = i := by omega
        simpa [e, e'] using z
    · intro G3 sg2 _ dD
      walk_at "s"
      refine k1 G3 _ _ sg2 rfl (dp_le (hid_nw sg hz) _ _ ?_)
      rw [filt_some] at dD
      rw [List.map_map]
      exact dD
  · intro G sg hL dD
    walk_at "s"
    refine q _ _ sg ?_
    rw [filt_some] at dD
    unfold rowsD
    rw [units_eq, List.map_map]
    exact dD
theorem gI_at {l : List Int} {i : Nat} (h : i < l.length) : atI (l.map V.int) (i : Int) = some (V.int (gI l i)) := by
  refine atI_nat ?_
  rw [List.getElem?_map, List.getElem?_eq_getElem h]
  show some (V.int _) = some (V.int (l.getD i 0))
  rw [List.getD_eq_getElem?_getD, List.getElem?_eq_getElem h]
  rfl
theorem gI_small {l : List Int} (h : small l) (i : Nat) : -1000 ≤ gI l i ∧ gI l i ≤ 1000 := by
  unfold gI
  rw [List.getD_eq_getElem?_getD]
  cases e : l[i]? with
  | none => exact ⟨by decide, by decide⟩
  | some x => exact h x (List.mem_of_getElem? e)
theorem cm {i j : Int} (h : -1000 ≤ i ∧ i ≤ 1000) : CMul i j := .inl ⟨by omega, by omega⟩
theorem pu_law_speed {K : PySem.W.Frag} : ∀ vs H Q E, sp_law_speed K vs H Q E → t_law_speed K { nx := fun _ H' => Q .non H', rt := Q } (start n_law_speed vs) H := by
  rintro vs H Q E ⟨a, b, m, p, rfl, ha, hb, sm, sp, kind, q⟩
  have out : ∀ (H' : Hp) (r : Addr) (ns : List Int), H r = none → H' = upd H r (.lst (ns.map V.int)) → speedL m p = ns → Q (.ref r) H' := fun H' r ns nr e1 e2 => by
    subst e1
    exact q r _ (same_new nr) (e2 ▸ SqL.of upd_same)
  walk_at "s"
  refine ⟨_, Or.inl ⟨_, hb, rfl⟩, ?_⟩
  rcases kind with ⟨l1, l2⟩ | ⟨l1, l2⟩ | ⟨l1, l2⟩
  · obtain ⟨x, rfl⟩ : ∃ x, p = [x] := by
      match p, l1 with
      | [x], _ => exact ⟨x, rfl⟩
    walk_at "s"
    refine Or.inl ⟨_, 0, _, rfl, ha, gI_at (i := 0) (by omega), ?_⟩
    walk_at "s"
    intro r hr
    exact out _ r [gI m 0] hr rfl rfl
  · obtain ⟨x, y, rfl⟩ : ∃ x y, p = [x, y] := by
      match p, l1 with
      | [x, y], _ => exact ⟨x, y, rfl⟩
    walk_at "s"
    refine ⟨_, Or.inl ⟨_, hb, rfl⟩, ?_⟩
    walk_at "s"
    refine Or.inl ⟨_, 0, _, rfl, ha, gI_at (i := 0) (by omega), ?_⟩
    walk_at "s"
    refine Or.inl ⟨_, 2, _, rfl, ha, gI_at (i := 2) (by omega), ?_⟩
    walk_at "s"
    refine Or.inl ⟨_, 1, _, rfl, hb, rfl, ?_⟩
    walk_at "s"
    refine ⟨cm (gI_small sm 2), ?_⟩
    walk_at "s"
    refine Or.inl ⟨_, 1, _, rfl, ha, gI_at (i := 1) (by omega), ?_⟩
    walk_at "s"
    refine Or.inl ⟨_, 2, _, rfl, ha, gI_at (i := 2) (by omega), ?_⟩
    walk_at "s"
    refine Or.inl ⟨_, 0, _, rfl, hb, rfl, ?_⟩
    walk_at "s"
    refine ⟨cm (gI_small sm 2), ?_⟩
    walk_at "s"
    intro r hr
    exact out _ r [gI m 0 - gI m 2 * y, gI m 1 + gI m 2 * x] hr rfl rfl
  · obtain ⟨x, y, z, rfl⟩ : ∃ x y z, p = [x, y, z] := by
      match p, l1 with
      | [x, y, z], _ => exact ⟨x, y, z, rfl⟩
    walk_at "s"
    refine ⟨_, Or.inl ⟨_, hb, rfl⟩, ?_⟩
    walk_at "s"
    refine Or.inl ⟨_, 0, _, rfl, ha, gI_at (i := 0) (by omega), ?_⟩
    walk_at "s"
    refine Or.inl ⟨_, 4, _, rfl, ha, gI_at (i := 4) (by omega), ?_⟩
    walk_at "s"
    refine Or.inl ⟨_, 2, _, rfl, hb, rfl, ?_⟩
    walk_at "s"
    refine ⟨cm (gI_small sm 4), ?_⟩
    walk_at "s"
    refine Or.inl ⟨_, 5, _, rfl, ha, gI_at (i := 5) (by omega), ?_⟩
    walk_at "s"
    refine Or.inl ⟨_, 1, _, rfl, hb, rfl, ?_⟩
    walk_at "s"
    refine ⟨cm (gI_small sm 5), ?_⟩
    walk_at "s"
    refine Or.inl ⟨_, 1, _, rfl, ha, gI_at (i := 1) (by omega), ?_⟩
    walk_at "s"
    refine Or.inl ⟨_, 5, _, rfl, ha, gI_at (i := 5) (by omega), ?_⟩
    walk_at "s"
    refine Or.inl ⟨_, 0, _, rfl, hb, rfl, ?_⟩
    walk_at "s"
    refine ⟨cm (gI_small sm 5), ?_⟩
    walk_at "s"
    refine Or.inl ⟨_, 3, _, rfl, ha, gI_at (i := 3) (by omega), ?_⟩
    walk_at "s"
    refine Or.inl ⟨_, 2, _, rfl, hb, rfl, ?_⟩
    walk_at "s"
    refine ⟨cm (gI_small sm 3), ?_⟩
    walk_at "s"
    refine Or.inl ⟨_, 2, _, rfl, ha, gI_at (i := 2) (by omega), ?_⟩
    walk_at "s"
    refine Or.inl ⟨_, 3, _, rfl, ha, gI_at (i := 3) (by omega), ?_⟩
    walk_at "s"
    refine Or.inl ⟨_, 1, _, rfl, hb, rfl, ?_⟩
    walk_at "s"
    refine ⟨cm (gI_small sm 3), ?_⟩
    walk_at "s"
    refine Or.inl ⟨_, 4, _, rfl, ha, gI_at (i := 4) (by omega), ?_⟩
    walk_at "s"
    refine Or.inl ⟨_, 0, _, rfl, hb, rfl, ?_⟩
    walk_at "s"
    refine ⟨cm (gI_small sm 4), ?_⟩
    walk_at "s"
    intro r hr
    exact out _ r [gI m 0 + gI m 4 * z - gI m 5 * y, gI m 1 + gI m 5 * x - gI m 3 * z, gI m 2 + gI m 3 * y - gI m 4 * x] hr rfl rfl

theorem wid_eq {d : Nat} (h1 : 1 ≤ d) (h3 : d ≤ 3) : ((d : Int) * ((d : Int) + 1)) / 2 = ((d * (d + 1) / 2 : Nat) : Int) ∧ d * (d + 1) / 2 ≤ 6 := by
  rcases (by omega : d = 1 ∨ d = 2 ∨ d = 3) with rfl | rfl | rfl <;> exact ⟨rfl, by decide⟩
theorem unit_len {w : Nat} {u : List Int} (h : u ∈ unitsL w) : u.length = w ∧ small u := by
  rw [units_eq] at h
  obtain ⟨s, _, rfl⟩ := List.mem_map.mp h
  refine ⟨by simp, fun x hx => ?_⟩
  obtain ⟨t, _, rfl⟩ := List.mem_map.mp hx
  split <;> omega
theorem row_at {K : PySem.W.Frag} {H : Hp} {xs : List V} {rs : List (List Int)} (h : DpAll K H xs (rs.map fun r => .list (r.map .int))) {i : Nat} {r : List Int} (hr : rs[i]? = some r) : ∃ a, xs[i]? = some (.ref a) ∧ SqL K H a (r.map V.int) := by
  obtain ⟨u, hu, du⟩ := dpa_at (i := i) (d := .list (r.map .int)) h (by rw [List.getElem?_map, hr]; rfl)
  obtain ⟨a, ys, rfl, sq, dy⟩ := dp_lst du
  rw [dpa_ints dy] at sq
  exact ⟨a, hu, sq⟩
theorem pt_sq {K : PySem.W.Frag} {H : Hp} {v : V} {p : List Int} (h : Dp K H v (tupI p)) : ∃ a, v = .ref a ∧ SqT K H a (p.map V.int) := by
  obtain ⟨a, ys, rfl, sq, dy⟩ := dp_tup h
  rw [dpa_ints dy] at sq
  exact ⟨a, rfl, sq⟩
theorem atI_rng {n i : Nat} (f : Nat → Int) (h : i < n) : atI (((List.range n).map f).map V.int) (i : Int) = some (V.int (f i)) := atI_nat (by simp [h])
theorem sp_kind {d : Nat} {a u : List Int} (h1 : 1 ≤ d) (h3 : d ≤ 3) (ha : a.length = d) (hu : u.length = d * (d + 1) / 2) : (a.length = 1 ∧ 1 ≤ u.length) ∨ (a.length = 2 ∧ 3 ≤ u.length) ∨ (a.length = 3 ∧ 6 ≤ u.length) := by
  rcases (by omega : d = 1 ∨ d = 2 ∨ d = 3) with rfl | rfl | rfl
  · exact .inl ⟨ha, by rw [hu]; decide⟩
  · exact .inr (.inl ⟨ha, by rw [hu]; decide⟩)
  · exact .inr (.inr ⟨ha, by rw [hu]; decide⟩)
theorem speed_len {m p : List Int} (h1 : 1 ≤ p.length) (h3 : p.length ≤ 3) : (speedL m p).length = p.length := by
  match p, h1, h3 with
  | [x], _, _ => rfl
  | [x, y], _, _ => rfl
  | [x, y, z], _, _ => rfl
theorem gI_unit {l : List Int} (h : ∀ x ∈ l, 0 ≤ x ∧ x ≤ 1) (i : Nat) : 0 ≤ gI l i ∧ gI l i ≤ 1 := by
  unfold gI
  rw [List.getD_eq_getElem?_getD]
  cases e : l[i]? with
  | none => exact ⟨by decide, by decide⟩
  | some x => exact h x (List.mem_of_getElem? e)
theorem hinge_len (d : Nat) (qs : List (List Int)) : (hingeL d qs).length = qs.length * d := by
  induction qs with
  | nil => simp [hingeL]
  | cons a l ih =>
    unfold hingeL at ih ⊢
    rw [List.flatMap_cons, List.length_append, ih, List.length_cons, Nat.succ_mul]
    simp
    omega
theorem hinge_app (d : Nat) (a b : List (List Int)) : hingeL d (a ++ b) = hingeL d a ++ hingeL d b := by
  unfold hingeL
  rw [List.flatMap_append]
theorem pu_law_asks {K : PySem.W.Frag} : ∀ vs H Q E, sp_law_asks K vs H Q E → t_law_asks K { nx := fun _ H' => Q .non H', rt := Q } (start n_law_asks vs) H := by
  rintro vs H Q E ⟨d, z, v, ps, rfl, d1, d3, dv, each, kind⟩
  obtain ⟨we, w6⟩ := wid_eq d1 d3
  walk_at "s"
  rw [we]
  refine ⟨_, rfl, w6, fun us H1 s1 dus => ?_⟩
  obtain ⟨ua, ux, rfl, usq, udp⟩ := dp_lst dus
  have ul : ux.length = d * (d + 1) / 2 := by rw [dpa_len udp]; simp [unitsL]
  obtain ⟨sa, sx, rfl, ssq, sdp⟩ := dp_tup dv
  walk_at "s"
  rcases kind with ⟨rfl, a, b, rfl, q⟩ | ⟨rfl, p2, q⟩
  · obtain ⟨ea, eas⟩ := each a (by simp)
    obtain ⟨eb, ebs⟩ := each b (by simp)
    obtain ⟨u0, hu0, du0⟩ := at_seg (e := [a, b]) sdp 0 rfl
    obtain ⟨u1, hu1, du1⟩ := at_seg (e := [a, b]) sdp 1 rfl
    obtain ⟨aa, rfl, asq⟩ := pt_sq du0
    obtain ⟨ba, rfl, bsq⟩ := pt_sq du1
    have nz : ((d : Nat) : Int).toNat ≤ sizeLine := line1000 (by omega)
    walk_at "s"
    refine ⟨d, rfl, by omega, by omega, ?_⟩
    intro D hD
    refine lc_D (K := K) walk_range H (fun i => some (.int (gI b i - gI a i))) hD s1 nz (fun _ _ => trivial) (fun _ _ _ _ _ y => by obtain ⟨rfl, _⟩ := y; exact Same.refl _) ?_ ?_
    · rintro i x G G2 Q' R hi sg _ ⟨rfl, rfl⟩ k1 _
      have ze : (0 : Int) + ((i : Nat) : Int) = (i : Nat) := by omega
      have s := s1.trans sg
      walk_at "s"
      refine Or.inl ⟨sx, 1, _, rfl, .inr (same_seqT s ssq), atI_nat hu1, ?_⟩
      walk_at "s"
      refine Or.inl ⟨_, _, _, rfl, .inr (same_seqT s bsq), (by rw [ze]; exact gI_at (by omega)), ?_⟩
      walk_at "s"
      refine Or.inl ⟨sx, 0, _, rfl, .inr (same_seqT s ssq), atI_nat hu0, ?_⟩
      walk_at "s"
      refine Or.inl ⟨_, _, _, rfl, .inr (same_seqT s asq), (by rw [ze]; exact gI_at (by omega)), ?_⟩
      walk_at "s"
      exact k1 G2 _ _ (Same.refl _) rfl (.int _)
    intro H2 s2 hL _
    obtain ⟨ahs, hah, dah⟩ := hL
    have eah : ahs = ((List.range d).map fun i => gI b i - gI a i).map V.int := dpa_ints (H := nw H H2) (K := K) (by rw [filt_some] at dah; rw [List.map_map]; exact dah)
    subst eah
    have s02 := s1.trans s2
    walk_at "s"
    refine Or.inl ?_
    walk_at "s"
    refine ⟨ua, rfl, ⟨_, (nw_le.trans s2).seq usq⟩, ?_⟩
    walk_at "s"
    intro D2 hD2
    refine lc_D (K := K) walk_list H (fun j => (unitsL (d * (d + 1) / 2))[j]?.map fun u => .int ((List.range d).map fun i => (gI b i - gI a i) * gI (speedL u a) i).sum) hD2 s02 (line1000 (by omega)) (fun G s => (nw_le.trans (s2.trans s)).seq usq) (fun _ _ _ _ _ y => by obtain ⟨rfl, _⟩ := y; exact Same.refl _) ?_ ?_
    · rintro j x G G2 Q' R hj sg ⟨zs, hz⟩ ⟨rfl, hx⟩ k1 _
      obtain ⟨u, hu⟩ : ∃ u, (unitsL (d * (d + 1) / 2))[j]? = some u := ⟨_, List.getElem?_eq_getElem (by simp [unitsL]; omega)⟩
      obtain ⟨xa, hxa, xsq⟩ := row_at udp hu
      rw [hx] at hxa
      cases hxa
      obtain ⟨lu, su⟩ := unit_len (List.mem_of_getElem? hu)
      have s := s02.trans sg
      walk_at "s"
      refine ⟨d, rfl, by omega, by omega, ?_⟩
      intro D3 hD3
      refine lc_D (K := K) walk_range G2 (fun i => some (.int ((gI b i - gI a i) * gI (speedL u a) i))) hD3 (Same.refl _) nz (fun _ _ => trivial) (fun _ _ _ _ _ y => by obtain ⟨rfl, _⟩ := y; exact Same.refl _) ?_ ?_
      · rintro i x G3 G4 Q2 R2 hi sg3 _ ⟨rfl, rfl⟩ k3 _
        have ze : (0 : Int) + ((i : Nat) : Int) = (i : Nat) := by omega
        have hi2 : i < d := by omega
        walk_at "s"
        refine Or.inl ⟨_, _, _, rfl, .inl (SqL.of (sg3 _ _ (sg _ _ hah))), (by rw [ze]; exact atI_rng _ hi2), ?_⟩
        walk_at "s"
        have s4 := s.trans sg3
        refine Or.inl ⟨sx, 0, _, rfl, .inr (same_seqT s4 ssq), atI_nat hu0, ?_⟩
        walk_at "s"
        refine ⟨xa, aa, u, a, rfl, .inl ((nw_le.trans ((s2.trans sg).trans sg3)).seq xsq), .inr (same_seqT s4 asq), su, fun x hx => by have := eas x hx; omega, sp_kind d1 d3 ea lu, fun r G5 s5 rsq => ?_⟩
        walk_at "s"
        refine Or.inl ⟨_, _, _, rfl, .inl rsq, (by rw [ze]; exact gI_at (by rw [speed_len (by omega) (by omega), ea]; exact hi2)), ?_⟩
        walk_at "s"
        refine ⟨cm ?_, ?_⟩
        · have h1 := gI_unit ebs i
          have h2 := gI_unit eas i
          omega
        exact k3 G5 _ _ s5 rfl (.int _)
      · intro G3 sg3 hL3 _
        obtain ⟨ys, hy, dy⟩ := hL3
        have ey : ys = ((List.range d).map fun i => (gI b i - gI a i) * gI (speedL u a) i).map V.int := dpa_ints (H := nw G2 G3) (K := K) (by rw [filt_some] at dy; rw [List.map_map]; exact dy)
        subst ey
        walk_at "s"
        refine ⟨_, SqL.of hy, ?_⟩
        walk_at "s"
        exact k1 G3 _ _ sg3 (by rw [hu]; rfl) (.int _)
    intro G sg hL2 _
    obtain ⟨rs, hrs, drs⟩ := hL2
    have nD2 : H D2 = none := same_none s02 hD2
    walk_at "s"
    intro r hr
    walk_at "s"
    have nr : H r = none := same_none (s02.trans sg) hr
    have e1 : rs = (rodL d a b).map V.int := dpa_ints (H := nw H G) (K := K) (by
      have e : ux.length = ((unitsL (d * (d + 1) / 2)).map fun u => PyData.int ((List.range d).map fun i => (gI b i - gI a i) * gI (speedL u a) i).sum).length := by simp [unitsL, ul]
      have e2 : (fun (j : Nat) => (unitsL (d * (d + 1) / 2))[j]?.map fun u => PyData.int ((List.range d).map fun i => (gI b i - gI a i) * gI (speedL u a) i).sum) = fun j => ((unitsL (d * (d + 1) / 2)).map fun u => PyData.int ((List.range d).map fun i => (gI b i - gI a i) * gI (speedL u a) i).sum)[j]? := by
        funext j
        rw [List.getElem?_map]
      rw [e2, e, range_at] at drs
      unfold rodL
      rw [List.map_map]
      exact drs)
    subst e1
    exact q _ _ ((s02.trans sg).trans (same_new hr)) (.lst (SqL.of (nw_at nr upd_same)) (.cons (.lst (SqL.of (nw_at nD2 ((same_new hr) _ _ hrs))) (dpa_int' _)) .nil))
  · have nz : ((d : Nat) : Int).toNat ≤ sizeLine := line1000 (by omega)
    walk_at "s"
    intro L hL
    walk_at "new"
    intro H2 h2 s2
    have nL : H L = none := same_none s1 hL
    walk_at "s"
    refine Or.inr (Or.inl ?_)
    walk_at "s"
    refine ⟨sa, rfl, ⟨_, same_seqT (s1.trans s2) ssq⟩, ?_⟩
    refine for_it walk_tup (fun i σ G => (∃ l v4 v6 v7 v8 ys, σ = [some (V.int d), some (V.str "hinge"), some (V.ref sa), some (V.ref ua), v4, some (V.ref l), v6, v7, v8] ∧ G l = some (.lst ys) ∧ H l = none ∧ DpAll K (nw H G) ys ((hingeL d (ps.take i)).map fun r => .list (r.map .int))) ∧ Same H1 G) ?_ (fun i σ G _ p => same_seqT (s1.trans p.2) ssq) ?_ ?_
    · exact ⟨⟨L, _, _, _, _, [], rfl, h2, nL, .nil⟩, s2⟩
    · rintro i x σ G G' hi ⟨⟨l, v4, v6, v7, v8, ys, rfl, hl, nl, dy⟩, s12⟩ ⟨rfl, hx⟩
      have hil : i < ps.length := by rw [← (by rw [dpa_len sdp, List.length_map] : sx.length = ps.length)]; exact hi
      obtain ⟨p, hp⟩ : ∃ p, ps[i]? = some p := ⟨_, List.getElem?_eq_getElem hil⟩
      obtain ⟨xp, hxp, dp⟩ := at_seg sdp i hp
      rw [hx] at hxp
      cases hxp
      obtain ⟨pa, rfl, psq⟩ := pt_sq dp
      obtain ⟨pl, p01⟩ := each p (List.mem_of_getElem? hp)
      have s := s1.trans s12
      walk_at "s"
      refine ⟨d, rfl, by omega, by omega, ?_⟩
      intro D hD
      refine lc_D (K := K) walk_range H (fun i => some (.list (((unitsL (d * (d + 1) / 2)).map fun u => gI (speedL u p) i).map .int))) hD s nz (fun _ _ => trivial) (fun _ _ _ _ _ y => by obtain ⟨rfl, _⟩ := y; exact Same.refl _) ?_ ?_
      · rintro a x G1 G2 Q' R ha sg ⟨zs, hz⟩ ⟨rfl, rfl⟩ k1 _
        have ze : (0 : Int) + ((a : Nat) : Int) = (a : Nat) := by omega
        have ha2 : a < d := by omega
        walk_at "s"
        refine Or.inl ?_
        walk_at "s"
        refine ⟨ua, rfl, ⟨_, (nw_le.trans (s12.trans sg)).seq usq⟩, ?_⟩
        walk_at "s"
        intro D2 hD2
        refine lc_D (K := K) walk_list G2 (fun j => ((unitsL (d * (d + 1) / 2)).map fun u => PyData.int (gI (speedL u p) a))[j]?) hD2 (Same.refl _) (line1000 (by omega)) (fun G s => (nw_le.trans ((s12.trans sg).trans s)).seq usq) (fun _ _ _ _ _ y => by obtain ⟨rfl, _⟩ := y; exact Same.refl _) ?_ ?_
        · rintro j x G3 G4 Q2 R2 hj sg3 _ ⟨rfl, hx⟩ k3 _
          obtain ⟨u, hu⟩ : ∃ u, (unitsL (d * (d + 1) / 2))[j]? = some u := ⟨_, List.getElem?_eq_getElem (by simp [unitsL]; omega)⟩
          obtain ⟨xa, hxa, xsq⟩ := row_at udp hu
          rw [hx] at hxa
          cases hxa
          obtain ⟨lu, su⟩ := unit_len (List.mem_of_getElem? hu)
          have s4 := (s12.trans sg).trans sg3
          walk_at "s"
          refine ⟨xa, pa, u, p, rfl, .inl ((nw_le.trans s4).seq xsq), .inr (same_seqT (s1.trans s4) psq), su, fun x hx => by have := p01 x hx; omega, sp_kind d1 d3 pl lu, fun r G5 s5 rsq => ?_⟩
          walk_at "s"
          refine Or.inl ⟨_, _, _, rfl, .inl rsq, (by rw [ze]; exact gI_at (by rw [speed_len (by omega) (by omega), pl]; exact ha2)), ?_⟩
          walk_at "s"
          exact k3 G5 _ _ s5 (by rw [List.getElem?_map, hu]; rfl) (.int _)
        · intro G3 sg3 _ dD2
          have e : ux.length = ((unitsL (d * (d + 1) / 2)).map fun u => PyData.int (gI (speedL u p) a)).length := by simp [unitsL, ul]
          rw [e, range_at] at dD2
          walk_at "s"
          refine k1 G3 _ _ sg3 rfl (dp_le (hid_nw (s.trans sg) hz) _ _ ?_)
          rw [List.map_map]
          exact dD2
      · intro G1 sg hL1 _
        obtain ⟨zs, hzs, dz⟩ := hL1
        rw [filt_some] at dz
        walk_at "s"
        have yl : ys.length ≤ 6 := by
          rw [dpa_len dy, List.length_map, hinge_len, List.length_take]
          have : min i ps.length ≤ 2 := by omega
          calc min i ps.length * d ≤ 2 * d := Nat.mul_le_mul_right _ this
            _ ≤ 6 := by omega
        have zl : zs.length = d := by rw [dpa_len dz]; simp
        refine ⟨l, D, ys, zs, rfl, rfl, sg _ _ hl, hzs, line1000 (by omega), fun r hr => ?_⟩
        walk_at "s"
        have nr : H r = none := same_none (s.trans sg) hr
        refine ⟨⟨r, v4, _, _, _, ys ++ zs, rfl, upd_same, nr, ?_⟩, (s12.trans sg).trans (same_new hr)⟩
        have et : ps.take (i + 1) = ps.take i ++ [p] := by rw [List.take_succ, hp]; rfl
        rw [et, hinge_app, List.map_append]
        refine dpa_app (dpa_le (nw_mono (Same.refl _) (sg.trans (same_new hr))) _ _ dy) (dpa_le (nw_mono (Same.refl _) (same_new hr)) _ _ ?_)
        have e1 : hingeL d [p] = (List.range d).map fun i => (unitsL (d * (d + 1) / 2)).map fun u => gI (speedL u p) i := by simp [hingeL]
        rw [e1, List.map_map]
        exact dz
    · rintro σ G ⟨⟨l, v4, v6, v7, v8, ys, rfl, hl, nl, dy⟩, s12⟩
      walk_at "s"
      have e : ps.take sx.length = ps := by rw [dpa_len sdp, List.length_map, List.take_length]
      rw [e] at dy
      exact q l ys _ (s1.trans s12) nl hl dy

theorem ln_law_pivots {K : PySem.W.Frag} : ∀ vs H Q E, sp_law_pivots K vs H Q E → vs.length = 2 := by rintro vs H Q E ⟨_, _, _, rfl, _⟩; rfl
theorem ln_law_rank {K : PySem.W.Frag} : ∀ vs H Q E, sp_law_rank K vs H Q E → vs.length = 1 := by rintro vs H Q E ⟨_, _, _, rfl, _⟩; rfl
section
variable {α β : Type} {F G : α → β → Prop}
theorem pr_imp : ∀ {a : List α} {b : List β}, Paired F a b → (∀ x y, F x y → G x y) → Paired G a b
  | _, _, .nil, _ => .nil
  | _, _, .cons r t, f => .cons (f _ _ r) (pr_imp t f)
theorem pr_len : ∀ {a : List α} {b : List β}, Paired F a b → a.length = b.length
  | _, _, .nil => rfl
  | _, _, .cons _ t => congrArg (· + 1) (pr_len t)
theorem pr_at : ∀ {a : List α} {b : List β} {i : Nat} {y : β}, Paired F a b → b[i]? = some y → ∃ x, a[i]? = some x ∧ F x y
  | _, _, i, y, .nil, e => by cases e
  | _, _, 0, y, .cons r _, e => by cases e; exact ⟨_, rfl, r⟩
  | _, _, i + 1, y, .cons _ t, e => pr_at (i := i) t e
theorem pr_app : ∀ {a a' : List α} {b b' : List β}, Paired F a b → Paired F a' b' → Paired F (a ++ a') (b ++ b')
  | _, _, _, _, .nil, s => s
  | _, _, _, _, .cons r t, s => .cons r (pr_app t s)
theorem pr_take : ∀ {a : List α} {b : List β} (n : Nat), Paired F a b → Paired F (a.take n) (b.take n)
  | _, _, 0, _ => .nil
  | _, _, _ + 1, .nil => .nil
  | _, _, n + 1, .cons r t => .cons r (pr_take n t)
theorem pr_drop : ∀ {a : List α} {b : List β} (n : Nat), Paired F a b → Paired F (a.drop n) (b.drop n)
  | _, _, 0, r => r
  | _, _, _ + 1, .nil => .nil
  | _, _, n + 1, .cons _ t => pr_drop n t
theorem pr_erase : ∀ {a : List α} {b : List β} (n : Nat), Paired F a b → Paired F (a.eraseIdx n) (b.eraseIdx n)
  | _, _, _, .nil => .nil
  | _, _, 0, .cons _ t => t
  | _, _, n + 1, .cons r t => .cons r (pr_erase n t)
theorem pr_set : ∀ {a : List α} {b : List β} (n : Nat) {x : α} {y : β}, F x y → Paired F a b → Paired F (a.set n x) (b.set n y)
  | _, _, _, _, _, _, .nil => .nil
  | _, _, 0, _, _, q, .cons _ t => .cons q t
  | _, _, n + 1, _, _, q, .cons r t => .cons r (pr_set n q t)
end
/-- a list of ints that is none of these -/
def Row (G : Hp) (av : List Addr) : V → List Int → Prop := fun v r => ∃ a, v = .ref a ∧ a ∉ av ∧ G a = some (.lst (r.map V.int))
theorem row_mono {G G' : Hp} {av : List Addr} (h : ∀ b o, b ∉ av → G b = some o → G' b = some o) {v : V} {r : List Int} (q : Row G av v r) : Row G' av v r := by
  obtain ⟨a, e, n, h1⟩ := q
  exact ⟨a, e, n, h a _ n h1⟩
theorem row_new {G : Hp} {av : List Addr} {x : Addr} (h : G x = none) {v : V} {r : List Int} (q : Row G av v r) : Row G (x :: av) v r := by
  obtain ⟨a, e, n, h1⟩ := q
  refine ⟨a, e, fun m => ?_, h1⟩
  rcases List.mem_cons.mp m with z | z
  · rw [z, h] at h1; cases h1
  · exact n z
theorem okS_get {w : Nat} {s : Piv} (h : okS w s = true) : (∀ r ∈ s.rows, r.length = w ∧ small r) ∧ s.last ≠ 0 ∧ (-1000 ≤ s.last ∧ s.last ≤ 1000) ∧ s.found.length ≤ s.rows.length ∧ s.rows.length ≤ 100 := by
  unfold okS at h
  simp only [Bool.and_eq_true, List.all_eq_true, decide_eq_true_eq] at h
  obtain ⟨h1, h2, h3, h4, h5, h6⟩ := h
  exact ⟨fun r hr => ⟨(h1 r hr).1, fun x hx => (h1 r hr).2 x hx⟩, h2, ⟨h3, h4⟩, h5, h6⟩
theorem okP_at {w : Nat} {rs : List (List Int)} (h : okP w rs = true) {k : Nat} (hk : k ≤ w) : okS w (pivS w rs k) = true :=
  List.all_eq_true.mp h k (List.mem_range.mpr (by omega))
theorem fm_spots {c : Nat → Int} {h : Nat → Nat} (l : List Nat) : (l.filterMap fun i => if c i = 0 then none else some (PyData.int ((h i : Nat) : Int))) = (l.filterMap fun i => if c i = 0 then none else some (h i)).map fun (i : Nat) => PyData.int (i : Int) := by
  induction l with
  | nil => rfl
  | cons a l ih =>
    rw [List.filterMap_cons, List.filterMap_cons, ih]
    by_cases e : c a = 0
    · rw [if_pos e, if_pos e]
    · rw [if_neg e, if_neg e, List.map_cons]
theorem dpAll_ints' {K : PySem.W.Frag} {H : Hp} : ∀ ns : List Nat, DpAll K H (ns.map fun (i : Nat) => V.int (i : Int)) (ns.map fun (i : Nat) => PyData.int (i : Int))
  | [] => .nil
  | n :: ns => .cons (.int _) (dpAll_ints' ns)
theorem shp_nat (ns : List Nat) : SeqAt.shaped (.list (ns.map fun (i : Nat) => PyData.int (i : Int))) = true := by
  have h := shp_ints (ns.map fun (i : Nat) => (i : Int))
  rw [List.map_map] at h
  exact h
theorem seq_nat {i n : Nat} (h : i < n) : seqIndex? (i : Int) n = some i := by
  unfold seqIndex?
  simp
  omega
theorem ix_nat {i n : Nat} (h : i < n) : ixN n (i : Int) = some i := by
  unfold ixN
  simp
  omega
/-- the rows behind f, the first j of them done -/
def partL (g : List Int → List Int) (lf : List (List Int)) (f j : Nat) : List (List Int) := lf.take f ++ (((lf.drop f).take j).map g ++ (lf.drop f).drop j)
theorem part_zero {g : List Int → List Int} {lf : List (List Int)} {f : Nat} : partL g lf f 0 = lf := by
  unfold partL
  simp
theorem part_all {g : List Int → List Int} {lf : List (List Int)} {f : Nat} : partL g lf f (lf.length - f) = lf.take f ++ (lf.drop f).map g := by
  unfold partL
  have e : (lf.drop f).length = lf.length - f := by simp
  rw [← e, List.take_length, List.drop_length, List.append_nil]
theorem part_at (g : List Int → List Int) {lf : List (List Int)} {f j : Nat} (h : f + j < lf.length) : ∃ r, ((partL g lf f j)[f + j]? = some r ∧ r ∈ lf) ∧ (partL g lf f j).set (f + j) (g r) = partL g lf f (j + 1) := by
  have hj : j < (lf.drop f).length := by simp; omega
  have e1 : (lf.drop f).drop j = (lf.drop f)[j] :: (lf.drop f).drop (j + 1) := List.drop_eq_getElem_cons hj
  have e2 : (lf.drop f).take (j + 1) = (lf.drop f).take j ++ [(lf.drop f)[j]] := by rw [List.take_succ, List.getElem?_eq_getElem hj]; rfl
  have lp : (lf.take f ++ ((lf.drop f).take j).map g).length = f + j := by simp; omega
  refine ⟨(lf.drop f)[j], ⟨?_, List.mem_of_mem_drop (List.getElem_mem hj)⟩, ?_⟩
  · unfold partL
    rw [e1, ← List.append_assoc, List.getElem?_append_right (by omega), lp]
    simp
  · unfold partL
    rw [e1, e2, ← List.append_assoc, List.set_append_right _ _ (by omega), lp]
    simp
theorem part_len {g : List Int → List Int} {lf : List (List Int)} {f j : Nat} : (partL g lf f j).length = lf.length := by
  unfold partL
  simp
  omega
theorem pu_law_pivots {K : PySem.W.Frag} : ∀ vs H Q E, sp_law_pivots K vs H Q E → t_law_pivots K { nx := fun _ H' => Q .non H', rt := Q } (start n_law_pivots vs) H := by
  rintro vs H Q E ⟨v, w, rs, rfl, w1, dv, ok, q⟩
  obtain ⟨va, vx, rfl, vsq, vdp⟩ := dp_lst dv
  obtain ⟨k1, _, _, _, k5⟩ := okS_get (okP_at ok (Nat.zero_le w))
  have vl : vx.length = rs.length := by rw [dpa_len vdp, List.length_map]
  have k5 : rs.length ≤ 100 := k5
  walk_at "s"
  refine Or.inl ?_
  walk_at "s"
  refine ⟨va, rfl, ⟨_, vsq⟩, ?_⟩
  walk_at "s"
  intro L hL
  refine lc_it walk_list (fun i G => Same H G ∧ ∃ refs, G L = some (.lst refs) ∧ Paired (Row G [L]) refs (rs.take i)) ⟨same_new hL, [], upd_same, .nil⟩ (fun i G _ p => p.1.seq vsq) ?_ ?_
  · rintro i x G G' hi ⟨sG, refs, hr, pr⟩ ⟨rfl, hx⟩
    obtain ⟨r, hrs⟩ : ∃ r, rs[i]? = some r := ⟨_, List.getElem?_eq_getElem (by omega)⟩
    obtain ⟨xa, hxa, xsq⟩ := row_at vdp hrs
    rw [hx] at hxa
    cases hxa
    walk_at "s"
    refine ⟨_, Or.inl (sG.seq xsq), fun p hp => ?_⟩
    have npL : p ≠ L := fun e => by rw [e, hr] at hp; cases hp
    have s3 : Same G' (upd G' p (.lst (r.map V.int))) := same_new hp
    refine ⟨refs, s3 _ _ hr, ?_, same_upd (sG.trans s3) hL, _, upd_same, ?_⟩
    · rw [pr_len pr, List.length_take]
      exact line1000' (by omega)
    have et : rs.take (i + 1) = rs.take i ++ [r] := by rw [List.take_succ, hrs]; rfl
    rw [et]
    have keep : ∀ b o, b ∉ [L] → (upd G' p (.lst (r.map V.int))) b = some o → upd (upd G' p (.lst (r.map V.int))) L (.lst (refs ++ [V.ref p])) b = some o := fun b o n e => (upd_ne fun z => n (by rw [z]; exact List.mem_singleton.mpr rfl)).trans e
    refine pr_app (pr_imp pr fun x y z => row_mono (fun b o n e => keep b o n (s3 _ _ e)) z) (.cons ⟨p, rfl, fun m => npL (List.mem_singleton.mp m), keep _ _ (fun m => npL (List.mem_singleton.mp m)) upd_same⟩ .nil)
  intro G1 ⟨s1, refs, hr, pr⟩
  rw [vl, List.take_length] at pr
  walk_at "s"
  intro F hF
  walk_at "new"
  intro G2 hf g2
  have hr2 := g2 _ _ hr
  have nFL : F ≠ L := fun e => by rw [e, hr] at hF; cases hF
  have nF : H F = none := same_none s1 hF
  have pr2 : Paired (Row G2 [F, L]) refs rs := pr_imp pr fun x y z => row_mono (fun b o _ e => g2 _ _ e) (row_new hF z)
  walk_at "s"
  intro T hT
  walk_at "new"
  intro G3 ht g3
  have nFT : F ≠ T := fun e => by rw [← e, hf] at hT; cases hT
  have nLT : L ≠ T := fun e => by rw [← e, hr2] at hT; cases hT
  walk_at "tup3"
  refine ⟨w, rfl, by omega, by omega, ?_⟩
  refine for_it walk_range (fun k σ G => ∃ refs v5 v6 v7 v8 v9 v10 v11, σ = [some (V.ref va), some (V.int w), some (V.ref L), some (V.ref F), some (V.int (pivS w rs k).last), v5, v6, v7, v8, v9, v10, v11] ∧
    Same H G ∧ G L = some (.lst refs) ∧ G F = some (.lst (natI (pivS w rs k).found)) ∧ Paired (Row G [F, L]) refs (pivS w rs k).rows) ?_ (fun _ _ _ _ _ => trivial) ?_ ?_
  · exact ⟨refs, _, _, _, _, _, _, _, rfl, (s1.trans g2).trans g3, g3 _ _ hr2, g3 _ _ hf, pr_imp pr2 fun x y z => row_mono (fun b o _ e => g3 _ _ e) z⟩
  · rintro k x σ G G' hk ⟨refs, v5, v6, v7, v8, v9, v10, v11, rfl, sG, hL2, hF2, prk⟩ ⟨rfl, rfl⟩
    have hkw : k < w := by omega
    obtain ⟨ks, kl, kb, kf, kr⟩ := okS_get (okP_at ok (Nat.le_of_lt hkw))
    have e1 : pivS w rs (k + 1) = pivC w (pivS w rs k) k := rfl
    rw [e1]
    generalize pivS w rs k = s at ks kl kb kf kr hF2 prk ⊢
    have zk : (0 : Int) + ((k : Nat) : Int) = (k : Nat) := by omega
    have fl : (natI s.found).length = s.found.length := by simp [natI]
    have rl : refs.length = s.rows.length := pr_len prk
    walk_at "s"
    refine ⟨_, Or.inl ⟨_, Or.inl (SqL.of hF2), rfl⟩, ?_⟩
    walk_at "s"
    refine ⟨_, Or.inl ⟨_, Or.inl (SqL.of hL2), rfl⟩, ?_⟩
    walk_at "s"
    refine ⟨_, _, rfl, ⟨by omega, by omega, by omega, by omega⟩, ?_⟩
    rw [fl, rl]
    have en : ((s.rows.length : Int) - (s.found.length : Int)).toNat = s.rows.length - s.found.length := by omega
    rw [en]
    intro D hD
    refine lc_D (K := K) walk_range H (fun i => if gI (s.rows.getD (s.found.length + i) []) k = 0 then none else some (.int ((s.found.length + i : Nat) : Int))) hD sG (line1000 (by omega)) (fun _ _ => trivial) (fun _ _ _ _ _ y => by obtain ⟨rfl, _⟩ := y; exact Same.refl _) ?_ ?_
    · rintro i x G4 G5 Q' R hi sg _ ⟨rfl, rfl⟩ y1 y2
      have hfi : s.found.length + i < s.rows.length := by omega
      have ze : (s.found.length : Int) + ((i : Nat) : Int) = ((s.found.length + i : Nat) : Int) := by omega
      have hrow : s.rows[s.found.length + i]? = some (s.rows.getD (s.found.length + i) []) := by rw [List.getD_eq_getElem?_getD, List.getElem?_eq_getElem hfi]; rfl
      generalize s.rows.getD (s.found.length + i) [] = r at hrow y1 y2
      obtain ⟨rl', _⟩ := ks r (List.mem_of_getElem? hrow)
      obtain ⟨xr, hxr, xa, rfl, _, hxa⟩ := pr_at prk hrow
      walk_at "s"
      refine Or.inl ⟨_, _, _, rfl, .inl (SqL.of (sg _ _ hL2)), (by rw [ze]; exact atI_nat hxr), ?_⟩
      walk_at "s"
      refine Or.inl ⟨_, _, _, rfl, .inl (SqL.of (sg _ _ hxa)), (by rw [zk]; exact gI_at (by omega)), ?_⟩
      walk_at "s"
      walk_at "if"
      · intro h
        have h0 : ¬ gI r k = 0 := fun e => h (by rw [e])
        walk_at "s"
        dsimp only
        rw [ze]
        exact y1 G5 _ _ (Same.refl _) (if_neg h0) (.int _)
      · intro h
        have h0 : gI r k = 0 := V.int.inj h
        exact y2 G5 (Same.refl _) (if_pos h0)
    · intro G4 sg hS _
      obtain ⟨ys, hys, dys⟩ := hS
      rw [fm_spots] at dys
      have ey : ys = (spotsL s k).map fun (i : Nat) => V.int (i : Int) := by
        have z := dpa_ints (ns := (spotsL s k).map fun (i : Nat) => (i : Int)) (H := nw H G4) (K := K) (by rw [List.map_map]; exact dys)
        rw [z, List.map_map]
        rfl
      subst ey
      have lim : ∀ i ∈ spotsL s k, s.found.length ≤ i ∧ i < s.rows.length := fun i hi => by
        unfold spotsL at hi
        obtain ⟨a, ha, e⟩ := List.mem_filterMap.mp hi
        have ha := List.mem_range.mp ha
        split at e
        · cases e
        · cases e; omega
      unfold pivC
      have sG4 := sG.trans sg
      have hL4 := sg _ _ hL2
      have hF4 := sg _ _ hF2
      have prk4 : Paired (Row G4 [F, L]) refs s.rows := pr_imp prk fun x y z => row_mono (fun b o _ e => sg _ _ e) z
      walk_at "s"
      intro E0 hE0
      walk_at "new"
      intro G5 he0 g5
      walk_at "s"
      refine ⟨_, _, .lst (SqL.of (g5 _ _ hys)) (dpAll_ints' _), .lst (SqL.of he0) .nil, shp_nat _, shp_nil, ?_⟩
      rw [eqv_nil]
      have hL5 := g5 _ _ hL4
      have hF5 := g5 _ _ hF4
      have hS5 := g5 _ _ hys
      have sG5 := sG4.trans g5
      have prk5 : Paired (Row G5 [F, L]) refs s.rows := pr_imp prk4 fun x y z => row_mono (fun b o _ e => g5 _ _ e) z
      generalize spotsL s k = sp at hS5 lim ⊢
      cases sp with
      | nil =>
        walk_at "s"
        exact ⟨refs, _, _, _, _, _, _, _, rfl, sG5, hL5, hF5, prk5⟩
      | cons i0 rest =>
        obtain ⟨hif, hi0⟩ := lim i0 List.mem_cons_self
        dsimp only
        have htop : s.rows[i0]? = some (s.rows.getD i0 []) := by rw [List.getD_eq_getElem?_getD, List.getElem?_eq_getElem hi0]; rfl
        have lfl : (s.rows.eraseIdx i0).length = s.rows.length - 1 := List.length_eraseIdx_of_lt hi0
        have tops := ks _ (List.mem_of_getElem? htop)
        have lfs : ∀ r ∈ s.rows.eraseIdx i0, r.length = w ∧ small r := fun r hr => ks r (List.mem_of_mem_eraseIdx hr)
        generalize s.rows.getD i0 [] = top at htop tops ⊢
        obtain ⟨_, hxr, ta, rfl, nta, hta⟩ := pr_at prk5 htop
        walk_at "s"
        refine ⟨Or.inl ⟨rfl, _, SqL.of hL5⟩, ?_⟩
        walk_at "s"
        refine Or.inl ⟨_, 0, V.int i0, rfl, .inl (SqL.of hS5), (by exact atI_nat (j := 0) rfl), ?_⟩
        walk_at "s"
        refine ⟨L, refs, _, i0, _, rfl, rfl, hL5, by omega, by omega, seq_nat (by omega), hxr, ?_⟩
        generalize hG6 : upd G5 L _ = G6
        have hL6 : G6 L = some (.lst (refs.eraseIdx i0)) := hG6 ▸ upd_same
        have k6 : ∀ b o, b ≠ L → G5 b = some o → G6 b = some o := fun b o n e => hG6 ▸ (upd_ne n).trans e
        have ntL : ta ≠ L := fun e => nta (by rw [e]; simp)
        have hF6 := k6 _ _ nFL hF5
        have ht6 := k6 _ _ ntL hta
        have sG6 : Same H G6 := fun b o e => k6 b o (fun z => by rw [z, hL] at e; cases e) (sG5 _ _ e)
        have pr6 : Paired (Row G6 [F, L]) (refs.eraseIdx i0) (s.rows.eraseIdx i0) := pr_imp (pr_erase i0 prk5) fun x y z => row_mono (fun b o n e => k6 b o (fun z => n (by rw [z]; simp)) e) z
        have el : (refs.eraseIdx i0).length = s.rows.length - 1 := by rw [pr_len pr6, lfl]
        generalize refs.eraseIdx i0 = refs6 at hL6 pr6 el
        generalize s.rows.eraseIdx i0 = lf at lfl lfs pr6 ⊢
        walk_at "s"
        refine ⟨_, Or.inl ⟨_, Or.inl (SqL.of hF6), rfl⟩, ?_⟩
        walk_at "s"
        refine ⟨_, Or.inl ⟨_, Or.inl (SqL.of hL6), rfl⟩, ?_⟩
        walk_at "s"
        refine ⟨_, _, rfl, ⟨by omega, by omega, by omega, by omega⟩, ?_⟩
        rw [fl, el]
        have en2 : (((s.rows.length - 1 : Nat) : Int) - (s.found.length : Int)).toNat = lf.length - s.found.length := by omega
        rw [en2]
        refine for_it walk_range (fun j σ G => ∃ rf v8 v9 v10 v11, σ = [some (V.ref va), some (V.int w), some (V.ref L), some (V.ref F), some (V.int s.last), some (V.int (0 + (k : Int))), some (V.ref D), some (V.ref ta), v8, v9, v10, v11] ∧
          Same H G ∧ G L = some (.lst rf) ∧ G F = some (.lst (natI s.found)) ∧ G ta = some (.lst (top.map V.int)) ∧ Paired (Row G [F, L]) rf (partL (lowL w k s.last top) lf s.found.length j)) ?_ (fun _ _ _ _ _ => trivial) ?_ ?_
        · exact ⟨refs6, _, _, _, _, rfl, sG6, hL6, hF6, ht6, by rw [part_zero]; exact pr6⟩
        · rintro j x σ G G7 hj ⟨rf, v8, v9, v10, v11, rfl, sG7, hL7, hF7, ht7, pr7⟩ ⟨rfl, rfl⟩
          have ze : (s.found.length : Int) + ((j : Nat) : Int) = ((s.found.length + j : Nat) : Int) := by omega
          obtain ⟨r, hr7, hset⟩ := part_at (lowL w k s.last top) (lf := lf) (f := s.found.length) (j := j) (by omega)
          obtain ⟨_, hxr7, ra, rfl, nra, hra⟩ := pr_at pr7 hr7.1
          obtain ⟨lr, sr⟩ := lfs r hr7.2
          walk_at "s"
          refine Or.inl ⟨_, _, _, rfl, .inl (SqL.of hL7), (by rw [ze]; exact atI_nat hxr7), ?_⟩
          walk_at "s"
          refine ⟨w, rfl, by omega, by omega, ?_⟩
          intro D3 hD3
          have nz : ((w : Nat) : Int).toNat ≤ sizeLine := line1000 (by omega)
          refine lc_D (K := K) walk_range H (fun t => some (.int ((gI top k * gI r t - gI r k * gI top t).fdiv s.last))) hD3 sG7 nz (fun _ _ => trivial) (fun _ _ _ _ _ y => by obtain ⟨rfl, _⟩ := y; exact Same.refl _) ?_ ?_
          · rintro t x G8 G9 Q' R ht sg8 _ ⟨rfl, rfl⟩ y1 _
            have zt : (0 : Int) + ((t : Nat) : Int) = (t : Nat) := by omega
            have htw : t < w := by omega
            have top9 := sg8 _ _ ht7
            have low9 := sg8 _ _ hra
            walk_at "s"
            refine Or.inl ⟨_, _, _, rfl, .inl (SqL.of top9), (by rw [zk]; exact gI_at (by omega)), ?_⟩
            walk_at "s"
            refine Or.inl ⟨_, _, _, rfl, .inl (SqL.of low9), (by rw [zt]; exact gI_at (by omega)), ?_⟩
            walk_at "s"
            refine ⟨cm (gI_small tops.2 k), ?_⟩
            walk_at "s"
            refine Or.inl ⟨_, _, _, rfl, .inl (SqL.of low9), (by rw [zk]; exact gI_at (by omega)), ?_⟩
            walk_at "s"
            refine Or.inl ⟨_, _, _, rfl, .inl (SqL.of top9), (by rw [zt]; exact gI_at (by omega)), ?_⟩
            walk_at "s"
            refine ⟨cm (gI_small sr k), ?_⟩
            walk_at "s"
            refine ⟨⟨kl, by omega⟩, ?_⟩
            exact y1 G9 _ _ (Same.refl _) rfl (.int _)
          · intro G8 sg8 hS8 _
            obtain ⟨zs, hzs, dz⟩ := hS8
            have ez : zs = (lowL w k s.last top r).map V.int := dpa_ints (H := nw H G8) (K := K) (by
              rw [filt_some] at dz
              unfold lowL
              rw [List.map_map]
              exact dz)
            subst ez
            have nDL : D3 ≠ L := fun e => by rw [e, hL7] at hD3; cases hD3
            have nDF : D3 ≠ F := fun e => by rw [e, hF7] at hD3; cases hD3
            walk_at "s"
            refine Or.inl ⟨rf, _, s.found.length + j, rfl, sg8 _ _ hL7, (by rw [ze]; exact ix_nat (by rw [pr_len pr7, part_len]; omega)), ?_⟩
            generalize hG9 : upd G8 L _ = G9
            have hL9 := hG9 ▸ upd_same (H := G8) (a := L)
            have k9 : ∀ b o, b ≠ L → G8 b = some o → G9 b = some o := fun b o n e => hG9 ▸ (upd_ne n).trans e
            walk_at "s"
            refine ⟨_, _, _, _, _, rfl, fun b o e => k9 b o (fun z => by rw [z, hL] at e; cases e) (sg8 _ _ (sG7 _ _ e)), hL9, k9 _ _ nFL (sg8 _ _ hF7), k9 _ _ ntL (sg8 _ _ ht7), ?_⟩
            rw [← hset]
            exact pr_set _ ⟨D3, rfl, by simp [nDL, nDF], k9 _ _ nDL hzs⟩ (pr_imp pr7 fun x y z => row_mono (fun b o n e => k9 b o (fun z => n (by rw [z]; simp)) (sg8 _ _ e)) z)
        · rintro σ G ⟨rf, v8, v9, v10, v11, rfl, sG7, hL7, hF7, ht7, pr7⟩
          rw [part_all] at pr7
          walk_at "s"
          refine ⟨Or.inl ⟨rfl, _, SqL.of hL7⟩, ?_⟩
          walk_at "s"
          refine ⟨_, Or.inl ⟨_, Or.inl (SqL.of hF7), rfl⟩, ?_⟩
          walk_at "s"
          have rfl7 : rf.length = lf.length := by rw [pr_len pr7]; simp; omega
          refine ⟨L, rf, _, _, rfl, rfl, hL7, line1000' (by omega), by omega, by rw [fl]; omega, ?_⟩
          rw [fl]
          have e3 : ((s.found.length : Nat) : Int).toNat = s.found.length := by omega
          rw [e3]
          generalize hG8 : upd G L _ = G8
          have hL8 : G8 L = some (.lst (rf.take s.found.length ++ [V.ref ta] ++ rf.drop s.found.length)) := hG8 ▸ upd_same
          have k8 : ∀ b o, b ≠ L → G b = some o → G8 b = some o := fun b o n e => hG8 ▸ (upd_ne n).trans e
          have hF8 := k8 _ _ nFL hF7
          have ht8 := k8 _ _ ntL ht7
          walk_at "s"
          refine Or.inl ⟨_, _, _, rfl, .inl (SqL.of ht8), (by rw [zk]; exact gI_at (by omega)), ?_⟩
          walk_at "s"
          refine ⟨Or.inl ⟨rfl, _, SqL.of hF8⟩, ?_⟩
          walk_at "s"
          refine ⟨F, _, _, rfl, rfl, hF8, line1000' (by omega), ?_⟩
          generalize hG9 : upd G8 F _ = G9
          have hF9 : G9 F = some (.lst (natI s.found ++ [V.int (0 + (k : Int))])) := hG9 ▸ upd_same
          have k9 : ∀ b o, b ≠ F → G8 b = some o → G9 b = some o := fun b o n e => hG9 ▸ (upd_ne n).trans e
          have pr8 : Paired (Row G8 [F, L]) rf (lf.take s.found.length ++ (lf.drop s.found.length).map (lowL w k s.last top)) := pr_imp pr7 fun x y z => row_mono (fun b o n e => k8 b o (fun z => n (by rw [z]; simp)) e) z
          walk_at "s"
          refine ⟨_, _, _, _, _, _, _, _, rfl, fun b o e => k9 b o (fun z => by rw [z, nF] at e; cases e) (k8 b o (fun z => by rw [z, hL] at e; cases e) (sG7 _ _ e)), k9 _ _ (Ne.symm nFL) hL8, ?_, ?_⟩
          · rw [hF9]
            simp [natI]
          · have tl : (lf.take s.found.length).length = s.found.length := by simp; omega
            have p1 := pr_take s.found.length pr8
            have p2 := pr_drop s.found.length pr8
            rw [List.take_left' tl] at p1
            rw [List.drop_left' tl] at p2
            refine pr_imp (G := Row G9 [F, L]) ?_ fun x y z => z
            rw [List.append_assoc]
            have mv : ∀ x y, Row G8 [F, L] x y → Row G9 [F, L] x y := fun x y z => row_mono (fun b o n e => k9 b o (fun z => n (by rw [z]; simp)) e) z
            exact pr_app (pr_imp p1 mv) (.cons ⟨ta, rfl, nta, k9 _ _ (fun e => nta (by rw [e]; simp)) ht8⟩ (pr_imp p2 mv))
  · rintro σ G ⟨refs, v5, v6, v7, v8, v9, v10, v11, rfl, sG, hL2, hF2, prk⟩
    walk_at "s"
    refine q F G sG ?_
    have e : ((w : Nat) : Int).toNat = w := by omega
    rw [e] at hF2
    exact hF2

theorem lay_rows : ∀ rs : List (List Int), PyData.canLayAll0 (rs.map fun r => PyData.list (r.map .int)) = true
  | [] => by simp [PyData.canLayAll0]
  | a :: e => by
    have h := lay_ints a
    simp [PyData.canLayAll0, PyData.canLay0, lay_rows e, h]
theorem dep_rows : ∀ rs : List (List Int), PyData.depthAll (rs.map fun r => PyData.list (r.map .int)) ≤ 1
  | [] => by simp [PyData.depthAll]
  | a :: e => by
    have h := dep_rows e
    have h2 : PyData.depth (PyData.list (a.map .int)) = 1 := by rw [PyData.depth, dep_ints]
    rw [List.map_cons, PyData.depthAll, h2]
    omega
theorem shp_rows (rs : List (List Int)) : SeqAt.shaped (rowsD rs) = true := shp_lst (lay_rows rs) (by have := dep_rows rs; omega)
theorem pu_law_rank {K : PySem.W.Frag} : ∀ vs H Q E, sp_law_rank K vs H Q E → t_law_rank K { nx := fun _ H' => Q .non H', rt := Q } (start n_law_rank vs) H := by
  rintro vs H Q E ⟨v, w, rs, rfl, w1, dv, ne, wl, ok, q⟩
  obtain ⟨va, vx, rfl, vsq, vdp⟩ := dp_lst dv
  walk_at "s"
  intro p hp
  walk_at "new"
  intro H1 h1 s1
  walk_at "s"
  refine ⟨_, _, dp_le s1 _ _ dv, .lst (SqL.of h1) .nil, shp_rows rs, shp_nil, ?_⟩
  unfold rowsD
  rw [eqv_nil]
  cases rs with
  | nil => exact absurd rfl ne
  | cons r0 rt =>
    obtain ⟨ra, hra, rsq⟩ := row_at vdp (i := 0) (r := r0) rfl
    walk_at "s"
    refine Or.inl ⟨vx, 0, _, rfl, .inl (s1.seq vsq), (by exact atI_nat (j := 0) hra), ?_⟩
    walk_at "s"
    refine ⟨_, Or.inl ⟨_, Or.inl (s1.seq rsq), rfl⟩, ?_⟩
    have e : (r0.map V.int).length = w := by rw [List.length_map]; exact wl
    rw [e]
    walk_at "s"
    refine ⟨.ref va, w, r0 :: rt, rfl, w1, dp_le s1 _ _ dv, ok, fun r H' s hr => ?_⟩
    walk_at "s"
    refine ⟨_, Or.inl ⟨_, Or.inl (SqL.of hr), rfl⟩, ?_⟩
    have e2 : (natI (pivS w (r0 :: rt) w).found).length = (pivS w (r0 :: rt) w).found.length := by simp [natI]
    rw [e2]
    walk_at "s"
    exact q H' (s1.trans s)

def linesL (n : Nat) : List (List Int) := (edgeD n).map fun e => rodL n (e.getD 0 []) (e.getD 1 [])
def rkB (w : Nat) (rs : List (List Int)) (k : Nat) : Bool := okP w rs && (decide ((pivS w rs w).found.length = k) && decide (rs ≠ []))
def allB (n w : Nat) : Bool := rkB w (linesL n) w && (List.range w).all fun a =>
  let h := hingeL n (oppL n a)
  let rest := (linesL n).take a ++ (linesL n).drop (a + 1)
  rkB w h (w - 1) && (rkB w rest (w - 1) && (rkB w (h ++ rest) (w - 1) && rkB w (h ++ [(linesL n).getD a []]) w))
theorem all1 : rkB 1 (linesL 1) 1 = true := by decide +kernel
theorem all2 : allB 2 3 = true := by decide +kernel
theorem all3 : allB 3 6 = true := by decide +kernel
theorem rk_get {w : Nat} {rs : List (List Int)} {k : Nat} (h : rkB w rs k = true) : okP w rs = true ∧ (pivS w rs w).found.length = k ∧ rs ≠ [] ∧ (rs.getD 0 []).length = w := by
  obtain ⟨h1, h2⟩ := Bool.and_eq_true_iff.mp h
  obtain ⟨h3, h4⟩ := Bool.and_eq_true_iff.mp h2
  have h4 : rs ≠ [] := of_decide_eq_true h4
  refine ⟨h1, of_decide_eq_true h3, h4, ?_⟩
  cases rs with
  | nil => exact absurd rfl h4
  | cons r l => exact ((okS_get (okP_at h1 (Nat.zero_le w))).1 r List.mem_cons_self).1
theorem mk_rank {K : PySem.W.Frag} {w : Nat} {rs : List (List Int)} {k : Nat} {v : V} {H : Hp} {Q : VK} {E : XK} (h : rkB w rs k = true) (w1 : w ≤ 100) (d : Dp K H v (rowsD rs)) (q : ∀ H', Same H H' → Q (.int ((k : Nat) : Int)) H') : sp_law_rank K [v] H Q E := by
  obtain ⟨h1, h2, h3, h4⟩ := rk_get h
  exact ⟨v, w, rs, rfl, w1, d, h3, h4, h1, fun H' s => by rw [h2]; exact q H' s⟩
theorem cut_from {xs : List V} (k : Nat) : cutV xs (some (k : Int)) none = xs.drop k := by
  unfold cutV
  rw [HT.sIx_none, HT.sIx_nat]
  by_cases h : k ≤ xs.length
  · rw [Nat.min_eq_left h, List.take_of_length_le (by simp)]
  · rw [Nat.min_eq_right (by omega)]
    simp
    omega

theorem in_dim {d : Int} (hd : Dim d) : withinV 1 3 (.int d) = true := by
  rcases hd with rfl | rfl | rfl <;> rfl
theorem mk_corners {K : PySem.W.Frag} {d : Int} {H : Hp} {Q : VK} {E : XK} (hd : Dim d) (q : retD K H Q (.tuple ((cornD d).map tupI))) : sp_corners K [.int d] H Q E :=
  ⟨_, rfl, trivial, fun d' e _ => by cases e; exact q, fun h => by rw [in_dim hd] at h; cases h⟩
theorem mk_edges {K : PySem.W.Frag} {d : Int} {H : Hp} {Q : VK} {E : XK} (hd : Dim d) (q : retD K H Q (.tuple ((edgeD d).map seg))) : sp_edges K [.int d] H Q E :=
  ⟨_, rfl, trivial, fun d' e _ => by cases e; exact q, fun h => by rw [in_dim hd] at h; cases h⟩
theorem in_wid {d a : Int} (h0 : 0 ≤ a) (h1 : a < widD d) : withinV 0 (widD d - 1) (.int a) = true := by
  have h2 : a ≤ widD d - 1 := by omega
  simp [withinV, h0, h2]
theorem mk_opposite {K : PySem.W.Frag} {d a : Int} {H : Hp} {Q : VK} {E : XK} (hd : Dim d) (h0 : 0 ≤ a) (h1 : a < widD d) (q : retD K H Q (seg (oppL d a))) : sp_opposite K [.int d, .int a] H Q E :=
  ⟨_, _, rfl, trivial, trivial, (fun d' a' e e' _ _ _ => by cases e; cases e'; exact q), (fun h => by rw [in_dim hd] at h; cases h), (fun d' e _ h => by cases e; rw [in_wid h0 h1] at h; cases h)⟩
theorem mk_same {K : PySem.W.Frag} {v w : V} {d : PyData} {H : Hp} {Q : VK} {E : XK} (hv : Dp K H v d) (hw : Dp K H w d) (td : tupD 4 d = true) (q : ∀ H', Same H H' → Q (.bl true) H') : sp_law_same K 4 [v, w] H Q E := ⟨v, w, d, rfl, hv, hw, td, q⟩
theorem wid_nat {n : Nat} (h1 : 1 ≤ n) (h3 : n ≤ 3) : widD n = ((n * (n + 1) / 2 : Nat) : Int) := by
  rcases (by omega : n = 1 ∨ n = 2 ∨ n = 3) with rfl | rfl | rfl <;> rfl
theorem td_corn {n : Nat} (h1 : 1 ≤ n) (h3 : n ≤ 3) : tupD 4 (.tuple ((cornD n).map tupI)) = true := by
  rcases (by omega : n = 1 ∨ n = 2 ∨ n = 3) with rfl | rfl | rfl <;> rfl
theorem td_edge {n : Nat} (h1 : 1 ≤ n) (h3 : n ≤ 3) : tupD 4 (.tuple ((edgeD n).map seg)) = true := by
  rcases (by omega : n = 1 ∨ n = 2 ∨ n = 3) with rfl | rfl | rfl <;> rfl
theorem two_of {d : Int} (hd : Dim d) : ∀ (i : Nat) (e : List (List Int)), (edgeD d)[i]? = some e → ∃ a b, e = [a, b] := by
  intro i e h
  have hi : i < (edgeD d).length := (List.getElem?_eq_some_iff.mp h).1
  obtain ⟨el, _⟩ := edge_len hd
  obtain ⟨p, q, _, _, h3⟩ := edge_at hd i _ _ (List.getElem?_eq_getElem (by omega))
  rw [h] at h3
  cases h3
  exact ⟨p, q, rfl⟩
theorem pts01 {n : Nat} (h1 : 1 ≤ n) (h3 : n ≤ 3) {e : List (List Int)} (h : e ∈ edgeD n) : ∀ p ∈ e, p.length = n ∧ ∀ x ∈ p, 0 ≤ x ∧ x ≤ 1 := by
  have all : ∀ e ∈ edgeD n, ∀ p ∈ e, p.length = n ∧ ∀ x ∈ p, 0 ≤ x ∧ x ≤ 1 := by
    rcases (by omega : n = 1 ∨ n = 2 ∨ n = 3) with rfl | rfl | rfl <;> decide
  exact all e h
theorem rk_lines {n : Nat} (h1 : 1 ≤ n) (h3 : n ≤ 3) : rkB (n * (n + 1) / 2) (linesL n) (n * (n + 1) / 2) = true := by
  rcases (by omega : n = 1 ∨ n = 2 ∨ n = 3) with rfl | rfl | rfl
  · exact all1
  · exact (Bool.and_eq_true_iff.mp all2).1
  · exact (Bool.and_eq_true_iff.mp all3).1
theorem lines_ne {n : Nat} (h1 : 1 ≤ n) (h3 : n ≤ 3) : linesL n ≠ [] ∧ ((linesL n).getD 0 []).length = n * (n + 1) / 2 := by
  rcases (by omega : n = 1 ∨ n = 2 ∨ n = 3) with rfl | rfl | rfl <;> decide +kernel
theorem eqv_self {d : PyData} (h : SeqAt.shaped d = true) : PyData.eqv d d = true := SeqAt.eqv_refl d (SeqAt.canLay_of_shaped h)
theorem td_opp {n i : Nat} (h1 : 1 ≤ n) (h3 : n ≤ 3) (hi : i < n * (n + 1) / 2) : tupD 4 (seg (oppL n i)) = true := by
  rcases (by omega : n = 1 ∨ n = 2 ∨ n = 3) with rfl | rfl | rfl
  · have hi : i < 1 := hi
    rcases (by omega : i = 0) with rfl
    rfl
  · have hi : i < 3 := hi
    rcases (by omega : i = 0 ∨ i = 1 ∨ i = 2) with rfl | rfl | rfl <;> rfl
  · have hi : i < 6 := hi
    rcases (by omega : i = 0 ∨ i = 1 ∨ i = 2 ∨ i = 3 ∨ i = 4 ∨ i = 5) with rfl | rfl | rfl | rfl | rfl | rfl <;> rfl
theorem rk_turn {n i : Nat} (h1 : 1 < n) (h3 : n ≤ 3) (hi : i < n * (n + 1) / 2) : let w := n * (n + 1) / 2
    let h := hingeL n (oppL n i)
    let rest := (linesL n).take i ++ (linesL n).drop (i + 1)
    rkB w h (w - 1) = true ∧ rkB w rest (w - 1) = true ∧ rkB w (h ++ rest) (w - 1) = true ∧ rkB w (h ++ [(linesL n).getD i []]) w = true := by
  have get : ∀ {w : Nat}, allB n w = true → i < w → rkB w (hingeL n (oppL n i)) (w - 1) = true ∧ rkB w ((linesL n).take i ++ (linesL n).drop (i + 1)) (w - 1) = true ∧ rkB w (hingeL n (oppL n i) ++ ((linesL n).take i ++ (linesL n).drop (i + 1))) (w - 1) = true ∧ rkB w (hingeL n (oppL n i) ++ [(linesL n).getD i []]) w = true := fun {w} h hi => by
    have h2 := List.all_eq_true.mp (Bool.and_eq_true_iff.mp h).2 i (List.mem_range.mpr hi)
    simp only [Bool.and_eq_true] at h2
    exact h2
  rcases (by omega : n = 2 ∨ n = 3) with rfl | rfl
  · exact get (w := 3) all2 hi
  · exact get (w := 6) all3 hi
theorem opp01 {n i : Nat} (h1 : 1 < n) (h3 : n ≤ 3) (hi : i < n * (n + 1) / 2) : ∀ p ∈ oppL n i, p.length = n ∧ ∀ x ∈ p, 0 ≤ x ∧ x ≤ 1 := by
  rcases (by omega : n = 2 ∨ n = 3) with rfl | rfl
  · have hi : i < 3 := hi
    rcases (by omega : i = 0 ∨ i = 1 ∨ i = 2) with rfl | rfl | rfl <;> decide
  · have hi : i < 6 := hi
    rcases (by omega : i = 0 ∨ i = 1 ∨ i = 2 ∨ i = 3 ∨ i = 4 ∨ i = 5) with rfl | rfl | rfl | rfl | rfl | rfl <;> decide
theorem opp_two {n i : Nat} (h1 : 1 < n) (h3 : n ≤ 3) (hi : i < n * (n + 1) / 2) : (oppL n i).length ≤ 2 := by
  rcases (by omega : n = 2 ∨ n = 3) with rfl | rfl
  · have hi : i < 3 := hi
    rcases (by omega : i = 0 ∨ i = 1 ∨ i = 2) with rfl | rfl | rfl <;> decide
  · have hi : i < 6 := hi
    rcases (by omega : i = 0 ∨ i = 1 ∨ i = 2 ∨ i = 3 ∨ i = 4 ∨ i = 5) with rfl | rfl | rfl | rfl | rfl | rfl <;> decide
theorem lines_len {n : Nat} (h1 : 1 ≤ n) (h3 : n ≤ 3) : (linesL n).length = n * (n + 1) / 2 := by
  rcases (by omega : n = 1 ∨ n = 2 ∨ n = 3) with rfl | rfl | rfl <;> rfl
theorem dpa_take {K : PySem.W.Frag} {H : Hp} : ∀ {vs : List V} {ds : List PyData} (n : Nat), DpAll K H vs ds → DpAll K H (vs.take n) (ds.take n)
  | _, _, 0, _ => .nil
  | _, _, _ + 1, .nil => .nil
  | _, _, n + 1, .cons a b => .cons a (dpa_take n b)
theorem dpa_drop {K : PySem.W.Frag} {H : Hp} : ∀ {vs : List V} {ds : List PyData} (n : Nat), DpAll K H vs ds → DpAll K H (vs.drop n) (ds.drop n)
  | _, _, 0, h => h
  | _, _, _ + 1, .nil => .nil
  | _, _, n + 1, .cons _ b => dpa_drop n b
theorem pu_law_right {K : PySem.W.Frag} : ∀ vs H Q E, sp_law_right K vs H Q E → t_law_right K { nx := fun _ H' => Q .non H', rt := Q } (start n_law_right vs) H := by
  rintro vs H Q E ⟨v, d, rfl, hd, q⟩
  obtain ⟨n, rfl, n1, n3⟩ := dim_nat hd
  obtain ⟨we, w6⟩ := wid_eq n1 n3
  walk_at "s"
  refine ⟨_, rfl, hd, fun due H1 s1 ddue => ?_⟩
  obtain ⟨da, dx, rfl, dsq, ddp⟩ := dp_lst ddue
  refine ⟨_, _, rfl, ?_⟩
  rw [we]
  walk_at "s"
  refine mk_corners (E := E0) hd fun c1 H2 s2 dc1 => ?_
  walk_at "s"
  refine ⟨_, rfl, hd, fun c2 H3 s3 dc2 => ?_⟩
  obtain ⟨c2a, c2x, rfl, c2sq, c2dp⟩ := dp_lst dc2
  walk_at "s"
  refine ⟨_, Or.inl ⟨nw_le.seq c2sq, fun p hp => ?_⟩⟩
  walk_at "new"
  intro H4 h4 s4
  walk_at "s"
  refine mk_same (E := E0) (dp_le (nw_le.trans (s3.trans s4)) _ _ dc1) (.tup (SqT.of h4) (dpa_le (nw_le.trans s4) _ _ c2dp)) (td_corn n1 n3) fun H5 s5 => ?_
  walk_at "s"
  refine mk_edges (E := E0) hd fun e1 H6 s6 de1 => ?_
  walk_at "s"
  have s26 := ((s2.trans s3).trans s4).trans (s5.trans s6)
  refine ⟨dx, Or.inl ⟨(nw_le.trans s26).seq dsq, fun p2 hp2 => ?_⟩⟩
  walk_at "new"
  intro H7 h7 s7
  walk_at "s"
  refine mk_same (E := E0) (dp_le (nw_le.trans s7) _ _ de1) (.tup (SqT.of h7) (dpa_le (nw_le.trans (s26.trans s7)) _ _ ddp)) (td_edge n1 n3) fun H8 s8 => ?_
  walk_at "s"
  refine mk_edges (E := E0) hd fun told H9 s9 dt => ?_
  obtain ⟨ta, tx, rfl, tsq, tdp⟩ := dp_tup dt
  walk_at "s"
  refine Or.inr (Or.inl ?_)
  walk_at "s"
  refine ⟨ta, rfl, ⟨_, same_seqT nw_le tsq⟩, ?_⟩
  walk_at "s"
  intro D hD
  have tl : tx.length = (edgeD n).length := by rw [dpa_len tdp, List.length_map]
  obtain ⟨_, e6⟩ := edge_len hd
  have s19 := (s26.trans s7).trans (s8.trans s9)
  have s09 := s1.trans s19
  refine lc_D (K := K) walk_tup H (fun i => (linesL n)[i]?.map fun r => .list (r.map .int)) hD s09 (line1000 (by omega)) (fun G s => same_seqT (nw_le.trans s) tsq) (fun _ _ _ _ _ y => by obtain ⟨rfl, _⟩ := y; exact Same.refl _) ?_ ?_
  · rintro i x G G2 Q' R hi sg ⟨zs, hz⟩ ⟨rfl, hx⟩ k1 _
    obtain ⟨e, he⟩ : ∃ e, (edgeD n)[i]? = some e := ⟨_, List.getElem?_eq_getElem (by omega)⟩
    obtain ⟨x', hx', dx'⟩ := dpa_at (i := i) (d := seg e) tdp (by rw [List.getElem?_map, he]; rfl)
    rw [hx] at hx'
    cases hx'
    obtain ⟨p0, p1, rfl⟩ := two_of hd i e he
    walk_at "s"
    refine ⟨n, "rod", _, [p0, p1], rfl, n1, n3, dp_le (nw_le.trans sg) _ _ dx', pts01 n1 n3 (List.mem_of_getElem? he), .inl ⟨rfl, p0, p1, rfl, fun w H2 s2 dw => ?_⟩⟩
    obtain ⟨wa, ws, rfl, wsq, wdp⟩ := dp_lst dw
    obtain ⟨u, hu, du⟩ := dpa_at (i := 0) (d := .list ((rodL n p0 p1).map .int)) wdp rfl
    walk_at "s"
    refine Or.inl ⟨ws, 0, u, rfl, .inl (nw_le.seq wsq), (by exact atI_nat (j := 0) hu), ?_⟩
    refine k1 H2 _ _ s2 ?_ (dp_le (hid_nw (s09.trans sg) hz) _ _ du)
    unfold linesL
    rw [List.getElem?_map, he]
    rfl
  · intro G sg hL _
    obtain ⟨ls, hls, dls⟩ := hL
    have ell : tx.length = (linesL n).length := by rw [tl]; simp [linesL]
    have em : (fun (i : Nat) => (linesL n)[i]?.map fun r => PyData.list (r.map .int)) = fun i => ((linesL n).map fun r => PyData.list (r.map .int))[i]? := by
      funext i
      rw [List.getElem?_map]
    rw [em, ell, ← List.length_map (f := fun r : List Int => PyData.list (r.map .int)), range_at] at dls
    walk_at "s"
    obtain ⟨r1, r2, r3, r4⟩ := rk_get (rk_lines n1 n3)
    refine ⟨_, n * (n + 1) / 2, linesL n, rfl, by omega, .lst (SqL.of hls) (dpa_le nw_le _ _ dls), r3, r4, r1, fun H10 s10 => ?_⟩
    rw [r2]
    walk_at "s"
    walk_at "if"
    · intro h; exact absurd rfl h
    intro _
    walk_at "s"
    refine mk_corners (E := E0) hd fun c3 H11 s11 dc3 => ?_
    walk_at "s"
    refine mk_corners (E := E0) hd fun c4 H12 s12 dc4 => ?_
    obtain ⟨_, _, rfl, _, _⟩ := dp_tup dc3
    obtain ⟨_, _, rfl, _, _⟩ := dp_tup dc4
    walk_at "s"
    refine ⟨_, _, dp_le (nw_le.trans s12) _ _ dc3, dp_le nw_le _ _ dc4, shp_seg (cornD n), shp_seg (cornD n), ?_⟩
    rw [eqv_self (d := .tuple ((cornD n).map tupI)) (shp_seg (cornD n))]
    walk_at "s"
    have sD : Same H9 H12 := ((sg.trans s10).trans s11).trans s12
    have s0D : Same H H12 := s09.trans sD
    have hl12 := s12 _ _ (s11 _ _ (s10 _ _ hls))
    refine ⟨_, rfl, by omega, by omega, ?_⟩
    refine for_it walk_range (fun i σ G' => (∃ v6 v7 v8 v9 v10, σ = [some v, some (V.int n), some (V.int ((n * (n + 1) / 2 : Nat) : Int)), some (V.ref da), some (V.ref ta), some (V.ref D), v6, v7, v8, v9, v10]) ∧ Same H12 G') ?_ (fun _ _ _ _ _ => trivial) ?_ ?_
    · exact ⟨⟨_, _, _, _, _, rfl⟩, Same.refl _⟩
    · rintro i x σ G' G'' hi ⟨⟨v6, v7, v8, v9, v10, rfl⟩, sL⟩ ⟨rfl, rfl⟩
      have hiw : i < n * (n + 1) / 2 := by omega
      have zi : (0 : Int) + ((i : Nat) : Int) = (i : Nat) := by omega
      have i1 : (i : Int) < widD n := by rw [wid_nat n1 n3]; omega
      walk_at "s"
      refine mk_opposite (E := E0) (a := 0 + (i : Int)) hd (by omega) (by omega) fun o1 K1 t1 do1 => ?_
      walk_at "s"
      refine ⟨_, 0 + (i : Int), rfl, hd, by omega, by omega, fun o2 K2 t2 do2 => ?_⟩
      rw [zi] at do1 do2
      walk_at "s"
      refine mk_same (E := E0) (dp_le (nw_le.trans t2) _ _ do1) (dp_le nw_le _ _ do2) (td_opp n1 n3 hiw) fun K3 t3 => ?_
      walk_at "s"
      refine mk_opposite (E := E0) (a := 0 + (i : Int)) hd (by omega) (by omega) fun o3 K4 t4 do3 => ?_
      rw [zi] at do3
      walk_at "s"
      obtain ⟨_, _, rfl, _, _⟩ := dp_tup do1
      obtain ⟨_, _, rfl, _, _⟩ := dp_tup do3
      walk_at "s"
      refine ⟨_, _, dp_le nw_le _ _ do3, dp_le (((nw_le.trans t2).trans t3).trans t4) _ _ do1, shp_seg _, shp_seg _, ?_⟩
      rw [eqv_self (shp_seg _)]
      walk_at "s"
      have sK : Same H12 K4 := (((sL.trans t1).trans t2).trans t3).trans t4
      walk_at "if"
      · intro hg
        have hn : 1 < n := by omega
        obtain ⟨b1, b2, b3, b4⟩ := rk_turn hn n3 hiw
        walk_at "s"
        refine ⟨n, "hinge", _, oppL n i, rfl, n1, n3, dp_le (((nw_le.trans t2).trans t3).trans t4) _ _ do1, opp01 hn n3 hiw, .inr ⟨rfl, opp_two hn n3 hiw, fun ha hx K5 t5 hna hha hdp => ?_⟩⟩
        have hl5 := t5 _ _ (sK _ _ hl12)
        have lw : ls.length = n * (n + 1) / 2 := by rw [dpa_len dls]; simp [lines_len n1 n3]
        have dl12 : DpAll K K5 ls ((linesL n).map fun r => .list (r.map .int)) := dpa_le (((nw_le.trans ((s10.trans s11).trans s12)).trans sK).trans t5) _ _ dls
        walk_at "s"
        refine ⟨_, Or.inl ⟨SqL.of hl5, fun p1 hp1 => ?_⟩⟩
        rw [zi, show cutV ls none (some ((i : Nat) : Int)) = ls.take i from cut_to i]
        generalize hG : upd K5 p1 _ = K6
        have hk6 := hG ▸ upd_same (H := K5) (a := p1)
        have t6 : Same K5 K6 := hG ▸ same_new hp1
        walk_at "s"
        refine ⟨_, Or.inl ⟨SqL.of (t6 _ _ hl5), fun p2 hp2 => ?_⟩⟩
        rw [show (0 : Int) + (i : Nat) + 1 = ((i + 1 : Nat) : Int) by omega, cut_from]
        generalize hG2 : upd K6 p2 _ = K7
        have hk7 := hG2 ▸ upd_same (H := K6) (a := p2)
        have t7 : Same K6 K7 := hG2 ▸ same_new hp2
        walk_at "s"
        refine ⟨p1, p2, _, _, rfl, rfl, t7 _ _ hk6, hk7, line1000 (by simp; omega), fun p3 hp3 => ?_⟩
        generalize hG3 : upd K7 p3 _ = K8
        have hk8 := hG3 ▸ upd_same (H := K7) (a := p3)
        have t8 : Same K7 K8 := hG3 ▸ same_new hp3
        have t58 := (t6.trans t7).trans t8
        have drest : Dp K K8 (.ref p3) (rowsD ((linesL n).take i ++ (linesL n).drop (i + 1))) := by
          refine .lst (SqL.of hk8) ?_
          rw [List.map_append, List.map_take, List.map_drop]
          have z := dpa_le t58 _ _ dl12
          exact dpa_app (dpa_take i z) (dpa_drop (i + 1) z)
        have dhin : Dp K K8 (.ref ha) (rowsD (hingeL n (oppL n i))) := .lst (SqL.of (t58 _ _ hha)) (dpa_le (nw_le.trans t58) _ _ hdp)
        walk_at "s"
        refine ⟨_, _, rfl, ?_⟩
        walk_at "s"
        obtain ⟨f1, f2, f3, f4⟩ := rk_get b1
        refine ⟨.ref ha, n * (n + 1) / 2, _, rfl, by omega, dhin, f3, f4, f1, fun L1 u1 => ?_⟩
        rw [f2]
        walk_at "s"
        have ew : V.int (((n * (n + 1) / 2 - 1 : Nat) : Int)) = V.int (((n * (n + 1) / 2 : Nat) : Int) - 1) := congrArg V.int (by omega)
        walk_at "if"
        · intro h; exact absurd ew h
        intro _
        obtain ⟨f1, f2, f3, f4⟩ := rk_get b2
        walk_at "s"
        refine ⟨.ref p3, n * (n + 1) / 2, _, rfl, by omega, dp_le u1 _ _ drest, f3, f4, f1, fun L2 u2 => ?_⟩
        rw [f2]
        walk_at "s"
        walk_at "if"
        · intro h; exact absurd ew h
        intro _
        walk_at "s"
        have u12 := u1.trans u2
        have hxl : hx.length ≤ 6 := by
          rw [dpa_len hdp, List.length_map, hinge_len]
          have := opp_two hn n3 hiw
          calc (oppL n i).length * n ≤ 2 * n := Nat.mul_le_mul_right _ this
            _ ≤ 6 := by omega
        refine ⟨ha, p3, _, _, rfl, rfl, u12 _ _ (t58 _ _ hha), u12 _ _ hk8, line1000 (by simp; omega), fun p4 hp4 => ?_⟩
        generalize hG4 : upd L2 p4 _ = L3
        have hl3 := hG4 ▸ upd_same (H := L2) (a := p4)
        have u3 : Same L2 L3 := hG4 ▸ same_new hp4
        have dh3 : DpAll K L3 hx ((hingeL n (oppL n i)).map fun r => .list (r.map .int)) := dpa_le ((nw_le.trans t58).trans (u12.trans u3)) _ _ hdp
        have dr3 : DpAll K L3 (ls.take i ++ ls.drop (i + 1)) (((linesL n).take i ++ (linesL n).drop (i + 1)).map fun r => .list (r.map .int)) := by
          rw [List.map_append, List.map_take, List.map_drop]
          have z := dpa_le ((t58.trans u12).trans u3) _ _ dl12
          exact dpa_app (dpa_take i z) (dpa_drop (i + 1) z)
        have dboth : Dp K L3 (.ref p4) (rowsD (hingeL n (oppL n i) ++ ((linesL n).take i ++ (linesL n).drop (i + 1)))) := by
          refine .lst (SqL.of hl3) ?_
          rw [List.map_append]
          exact dpa_app dh3 dr3
        obtain ⟨f1, f2, f3, f4⟩ := rk_get b3
        walk_at "s"
        refine ⟨.ref p4, n * (n + 1) / 2, _, rfl, by omega, dboth, f3, f4, f1, fun L4 u4 => ?_⟩
        rw [f2]
        walk_at "s"
        walk_at "if"
        · intro h; exact absurd ew h
        intro _
        obtain ⟨f1, f2, f3, f4⟩ := rk_get b4
        have u14 := (u12.trans u3).trans u4
        have hlL := u14 _ _ (t58 _ _ hl5)
        obtain ⟨lr, hlr, slr⟩ := row_at (dpa_le (t58.trans u14) _ _ dl12) (i := i) (r := (linesL n).getD i []) (by rw [List.getD_eq_getElem?_getD, List.getElem?_eq_getElem (by rw [lines_len n1 n3]; omega)]; rfl)
        walk_at "s"
        refine Or.inl ⟨ls, 0 + (i : Int), _, rfl, .inl (SqL.of hlL), (by rw [zi]; exact atI_nat hlr), ?_⟩
        walk_at "s"
        intro p5 hp5
        generalize hG5 : upd L4 p5 _ = L5
        have hk9 := hG5 ▸ upd_same (H := L4) (a := p5)
        have u5 : Same L4 L5 := hG5 ▸ same_new hp5
        walk_at "s"
        refine ⟨ha, p5, _, _, rfl, rfl, u5 _ _ (u14 _ _ (t58 _ _ hha)), hk9, line1000 (by simp; omega), fun p6 hp6 => ?_⟩
        generalize hG6 : upd L5 p6 _ = L6
        have hk10 := hG6 ▸ upd_same (H := L5) (a := p6)
        have u6 : Same L5 L6 := hG6 ▸ same_new hp6
        have dlast : Dp K L6 (.ref p6) (rowsD (hingeL n (oppL n i) ++ [(linesL n).getD i []])) := by
          refine .lst (SqL.of hk10) ?_
          rw [List.map_append]
          refine dpa_app (dpa_le ((u4.trans u5).trans u6) _ _ dh3) (.cons (.lst (u6.seq (u5.seq slr)) (dpa_int' _)) .nil)
        walk_at "s"
        refine ⟨.ref p6, n * (n + 1) / 2, _, rfl, by omega, dlast, f3, f4, f1, fun L7 u7 => ?_⟩
        rw [f2]
        walk_at "s"
        walk_at "if"
        · intro h; exact absurd rfl h
        intro _
        walk_at "s"
        exact ⟨⟨_, _, _, _, _, rfl⟩, (sK.trans t5).trans ((t58.trans u14).trans ((u5.trans u6).trans u7))⟩
      · intro _
        walk_at "s"
        exact ⟨⟨_, _, _, _, _, rfl⟩, sK⟩
    · rintro σ G' ⟨⟨v6, v7, v8, v9, v10, rfl⟩, sL⟩
      walk_at "s"
      exact q _ (s0D.trans sL)

/-! ### what is refused -/
def farD : List PyData := [.int 0, .int 4, .int (-1), .bool true, .none, .str "2", .tuple [.int 2], .list [.int 3], .int 1000000000000000000000000000000]
def badD (w : Int) : List PyData := [.int (-1), .int w, .bool true, .none, .str "0", .tuple [.int 0], .int 1000000000000000000000000000000]
def outD (lo hi : Int) : PyData → Bool
  | .int i => !(decide (lo ≤ i) && decide (i ≤ hi))
  | _ => true
theorem out_dp {K : PySem.W.Frag} {H : Hp} {v : V} {d : PyData} {lo hi : Int} (h : Dp K H v d) (o : outD lo hi d = true) : withinV lo hi v = false := by
  cases h with
  | int i =>
    have o : (!(decide (lo ≤ i) && decide (i ≤ hi))) = true := o
    show (decide (lo ≤ i) && decide (i ≤ hi)) = false
    cases e : (decide (lo ≤ i) && decide (i ≤ hi)) with
    | true => rw [e] at o; cases o
    | false => rfl
  | _ => rfl
theorem kn_dp {K : PySem.W.Frag} {H : Hp} {v : V} {d : PyData} (h : Dp K H v d) : Kn K H v := by
  cases h with
  | lst q a => exact ⟨_, .lst q⟩
  | tup q a => exact ⟨_, .tup q⟩
  | _ => trivial
theorem far_out : ∀ d ∈ farD, outD 1 3 d = true := by decide +kernel
theorem far_shp : ∀ d ∈ farD, SeqAt.shaped d = true := by decide +kernel
theorem bad_out {d : Int} (hd : Dim d) : ∀ x ∈ badD (widD d), outD 0 (widD d - 1) x = true := by
  rcases hd with rfl | rfl | rfl <;> decide +kernel
theorem hear_bad {K : PySem.W.Frag} {H : Hp} {Q : VK} {tl : XK → Hp → VK → Prop} {x f : Str} {v : V} (hx : (x = "BadDimension" ∧ f = "value") ∨ (x = "BadNumber" ∧ f = "part"))
    (raise : ∀ H2 Q' E', LamX.ExtN H H2 → badV K H2 E' x f v → tl E' H2 Q')
    (next : ∀ p G, LamX.ExtN H G → LamX.Tabs (tabs K) G → G p = some (.tup [.str x, v]) → Q (.ref p) G) :
    ∀ H1, LamX.ExtN H H1 → LamX.Tabs (tabs K) H1 → TT_law_heard K tl H1 Q := by
  intro H1 e1 T1 H2 s ns s12 hs
  refine raise H2 _ _ (e1.trans (same_ext s12)) fun d hd => ?_
  have s2 : Same H2 (upd H2 d (.xd [(f, v)])) := same_new hd
  have hs' := s2 _ _ hs
  refine ⟨hs', d, x, f, v, rfl, rfl, upd_same, hx, fun p G k np hp => next p G ?_ ?_ hp⟩
  · intro b o hb ht
    have h1 := e1 b o hb ht
    exact k b o (fun z => by rw [z, ns] at h1; cases h1) (s2 _ _ (s12 _ _ h1))
  · exact tabs_kp (T1.ext (s12.trans s2)) k hs'
theorem not_dim {v : V} (wf : withinV 1 3 v = false) {d : Int} (e : v = .int d) (hd : Dim d) : False := by
  rw [e, in_dim hd] at wf
  cases wf
theorem bad_corners {K : PySem.W.Frag} {v : V} {H : Hp} {Q : VK} {E : XK} (kn : Kn K H v) (wf : withinV 1 3 v = false) (b : badV K H E "BadDimension" "value" v) : sp_corners K [v] H Q E :=
  ⟨v, rfl, kn, fun d e hd => (not_dim wf e hd).elim, fun _ => b⟩
theorem bad_edges {K : PySem.W.Frag} {v : V} {H : Hp} {Q : VK} {E : XK} (kn : Kn K H v) (wf : withinV 1 3 v = false) (b : badV K H E "BadDimension" "value" v) : sp_edges K [v] H Q E :=
  ⟨v, rfl, kn, fun d e hd => (not_dim wf e hd).elim, fun _ => b⟩
theorem bad_opposite {K : PySem.W.Frag} {v w : V} {H : Hp} {Q : VK} {E : XK} (kn : Kn K H v) (kw : Kn K H w) (wf : withinV 1 3 v = false) (b : badV K H E "BadDimension" "value" v) : sp_opposite K [v, w] H Q E :=
  ⟨v, w, rfl, kn, kw, fun d _ e _ hd _ _ => (not_dim wf e hd).elim, fun _ => b, fun d e hd _ => (not_dim wf e hd).elim⟩
theorem bad_at {K : PySem.W.Frag} {d : Int} {w : V} {H : Hp} {Q : VK} {E : XK} (hd : Dim d) (kw : Kn K H w) (wf : withinV 0 (widD d - 1) w = false) (b : badV K H E "BadNumber" "part" (.str "at")) : sp_opposite K [.int d, w] H Q E := by
  refine ⟨.int d, w, rfl, trivial, kw, fun d' a e1 e2 _ h0 h1 => ?_, fun h => (not_dim h rfl hd).elim, fun d' e _ _ => ?_⟩
  · cases e1
    rw [e2, in_wid h0 h1] at wf
    cases wf
  · cases e
    exact b
theorem pen_ext {H H' : Hp} {p c : Addr} {n : Int} (h : Pen H p c n) (e : LamX.ExtN H H') : Pen H' p c n := by
  obtain ⟨ns, a, l, h1, h2, r⟩ := h
  exact ⟨ns, a, l, e _ _ h1 (fun _ z => nomatch z), e _ _ h2 (fun _ z => nomatch z), r⟩
theorem ext_kpT {H H' : Hp} (p : Addr) (e : LamX.ExtN H H') : KpT p H H' := fun b o _ t h => e b o h t
theorem kp_kpT {H H' : Hp} {p : Addr} (e : Kp p H H') : KpT p H H' := fun b o n _ h => e b o n h
theorem KpT.trans {p : Addr} {H H1 H2 : Hp} (a : KpT p H H1) (b : KpT p H1 H2) : KpT p H H2 := fun c o n t h => b c o n t (a c o n t h)
theorem nw_kpn {B G H : Hp} {p : Addr} {o : HO} (k : Kp p G H) (e : B p = some o) : Same (nw B G) (nw B H) := fun b u z => by
  obtain ⟨h1, h2⟩ := nw_no z
  exact nw_at h1 (k _ _ (fun w => by rw [w, e] at h1; cases h1) h2)
theorem pen_at {H : Hp} {p c : Addr} {n : Int} (h : Pen H p c n) : ∃ o, H p = some o := by
  obtain ⟨_, _, _, h, _⟩ := h
  exact ⟨_, h⟩
theorem tabs_pen {K : PySem.W.Frag} {H H' : Hp} {p c : Addr} {n : Int} (t : LamX.Tabs (tabs K) H) (k : Kp p H H') (h : Pen H p c n) : LamX.Tabs (tabs K) H' := by
  obtain ⟨_, _, _, h, _⟩ := h
  exact tabs_kp t k h
def ask (d : PyData) : PyData := .list [.tuple [.str "BadDimension", d], .tuple [.str "BadDimension", d], .tuple [.str "BadDimension", d], .tuple [.str "BadDimension", d]]
theorem ask_shp : ∀ d ∈ farD, SeqAt.shaped (ask d) = true := by decide +kernel
def atD : PyData := .tuple [.str "BadNumber", .str "at"]
theorem at_shp : SeqAt.shaped atD = true := by decide +kernel
theorem pu_law_refused {K : PySem.W.Frag} : ∀ vs H Q E, sp_law_refused K vs H Q E → t_law_refused K { nx := fun _ H' => Q .non H', rt := Q } (start n_law_refused vs) H := by
  rintro vs H Q E ⟨p, c, n, rfl, pen, lim, T, q⟩
  have pin : ∃ ox, H p = some ox := by
    obtain ⟨_, _, _, h, _⟩ := pen
    exact ⟨_, h⟩
  obtain ⟨po, hp0⟩ := pin
  walk_at "s"
  intro t1 ht1
  walk_at "new"
  intro H1 h1 s1
  walk_at "s"
  intro l1 hl1
  walk_at "new"
  intro H2 h2 s2
  walk_at "s"
  intro L hL
  walk_at "new"
  intro H3 h3 s3
  walk_at "s"
  have dfar : DpAll K (nw H H3) [.int 0, .int 4, .int (-1), .bl true, .non, .str "2", .ref t1, .ref l1, .int (10 ^ Int.toNat 30)] farD :=
    .cons (.int _) (.cons (.int _) (.cons (.int _) (.cons (.bl _) (.cons .non (.cons (.str _) (.cons (.tup (SqT.of (nw_at ht1 (s3 _ _ (s2 _ _ h1)))) (.cons (.int _) .nil)) (.cons (.lst (SqL.of (nw_at (same_none s1 hl1) (s3 _ _ h2))) (.cons (.int _) .nil)) (.cons (.int _) .nil))))))))
  have s03 := (s1.trans s2).trans s3
  refine ⟨p, c, L, _, n, rfl, pen.same s03, by omega, List.cons_ne_nil _ _, Nat.le_of_ble_eq_true rfl, (fun z => by rw [z, s2 _ _ (s1 _ _ hp0)] at hL; cases hL), Or.inl (SqL.of h3), fun far H4 hfar k4 pen4 => ?_⟩
  obtain ⟨fd, hfd, dpf⟩ := dpa_mem dfar hfar
  have dpf4 := dp_le (nw_kpn k4 hp0) _ _ dpf
  have T4 : LamX.Tabs (tabs K) H4 := tabs_pen (T.ext s03) k4 (pen.same s03)
  obtain ⟨po4, hp4⟩ := pen_at pen4
  walk_at "s"
  intro L2 hL2
  walk_at "new"
  intro H5 h5 s5
  walk_at "s"
  refine ⟨p, c, L2, _, n + 1, rfl, pen4.same s5, by omega, List.cons_ne_nil _ _, Nat.le_of_ble_eq_true rfl, (fun z => by rw [z, hp4] at hL2; cases hL2), Or.inl (SqL.of h5), fun dim H6 hdim k6 pen6 => ?_⟩
  have edim : ∃ d, dim = .int d ∧ Dim d := by
    rcases List.mem_cons.mp hdim with rfl | hdim
    · exact ⟨1, rfl, .inl rfl⟩
    rcases List.mem_cons.mp hdim with rfl | hdim
    · exact ⟨2, rfl, .inr (.inl rfl)⟩
    rcases List.mem_cons.mp hdim with rfl | hdim
    · exact ⟨3, rfl, .inr (.inr rfl)⟩
    cases hdim
  obtain ⟨d, rfl, hd⟩ := edim
  have dpf6 := dp_le (nw_kpn ((same_kp s5).trans k6) hp0) _ _ dpf4
  have T6 : LamX.Tabs (tabs K) H6 := tabs_pen (T4.ext s5) k6 (pen4.same s5)
  obtain ⟨po6, hp6⟩ := pen_at pen6
  walk_at "s"
  intro tt htt
  walk_at "new"
  intro H7 h7 s7
  walk_at "s"
  walk_at "tup2"
  intro L3 hL3
  walk_at "new"
  intro H8 h8 s8
  walk_at "s"
  refine Or.inl ⟨_, _, .int (widD d), rfl, Or.inl (SqL.of h8), (by rcases hd with rfl | rfl | rfl <;> rfl), ?_⟩
  walk_at "s"
  intro t2 ht2
  walk_at "new"
  intro H9 h9 s9
  walk_at "s"
  intro L4 hL4
  walk_at "new"
  intro H10 h10 s10
  walk_at "s"
  have s610 := ((s7.trans s8).trans s9).trans s10
  have hp9 := s9 _ _ (s8 _ _ (s7 _ _ hp6))
  have nt2 : H t2 = none := by
    cases e : H t2 with
    | none => rfl
    | some o =>
      exfalso
      by_cases z : t2 = p
      · rw [z, s8 _ _ (s7 _ _ hp6)] at ht2; cases ht2
      · rw [s8 _ _ (s7 _ _ (k6 _ _ z (s5 _ _ (k4 _ _ z (s03 _ _ e)))))] at ht2; cases ht2
  have dbad : DpAll K (nw H H10) [.int (-1), .int (widD d), .bl true, .non, .str "0", .ref t2, .int (10 ^ Int.toNat 30)] (badD (widD d)) :=
    .cons (.int _) (.cons (.int _) (.cons (.bl _) (.cons .non (.cons (.str _) (.cons (.tup (SqT.of (nw_at nt2 (s10 _ _ h9))) (.cons (.int _) .nil)) (.cons (.int _) .nil))))))
  refine ⟨p, c, L4, _, n + 2, rfl, ?_, by omega, List.cons_ne_nil _ _, Nat.le_of_ble_eq_true rfl, (fun z => by rw [z, hp9] at hL4; cases hL4), Or.inl (SqL.of h10), fun bad H11 hbad k11 pen11 => ?_⟩
  · have z := pen6.same s610
    rw [show n + 1 + 1 = n + 2 by omega] at z
    exact z
  obtain ⟨bd, hbd, dpb⟩ := dpa_mem dbad hbad
  have dpb11 := dp_le (nw_kpn k11 hp0) _ _ dpb
  have dpf11 := dp_le (nw_kpn ((same_kp s610).trans k11) hp0) _ _ dpf6
  have T11 : LamX.Tabs (tabs K) H11 := tabs_pen (T6.ext s610) k11 (pen6.same s610)
  have dpF := dp_le nw_le _ _ dpf11
  have dpB := dp_le nw_le _ _ dpb11
  have wF : withinV 1 3 far = false := out_dp dpF (far_out _ hfd)
  have wB : withinV 0 (widD d - 1) bad = false := out_dp dpB (bad_out hd _ hbd)
  walk_at "s"
  refine hear_bad (v := far) (.inl ⟨rfl, rfl⟩) (fun G2 Q' E' e b => ?_) fun a1 G1 e1 T1 g1 => ?_
  · walk_at "s"
    exact bad_corners (kn_dp (dp_ext e _ _ dpF)) wF b
  walk_at "s"
  refine hear_bad (v := far) (.inl ⟨rfl, rfl⟩) (fun G2 Q' E' e b => ?_) fun a2 G2 e2 T2 g2 => ?_
  · walk_at "s"
    exact bad_edges (kn_dp (dp_ext (e1.trans e) _ _ dpF)) wF b
  walk_at "s"
  refine hear_bad (v := far) (.inl ⟨rfl, rfl⟩) (fun G2 Q' E' e b => ?_) fun a3 G3 e3 T3 g3 => ?_
  · walk_at "s"
    have ee := (e1.trans e2).trans e
    exact bad_opposite (kn_dp (dp_ext ee _ _ dpF)) (kn_dp (dp_ext ee _ _ dpB)) wF b
  walk_at "s"
  refine hear_bad (v := far) (.inl ⟨rfl, rfl⟩) (fun G2 Q' E' e b => ?_) fun a4 G4 e4 T4' g4 => ?_
  · walk_at "s"
    have ee := ((e1.trans e2).trans e3).trans e
    exact bad_opposite (kn_dp (dp_ext ee _ _ dpF)) trivial wF b
  walk_at "s"
  intro L5 hL5
  walk_at "new"
  intro G5 g5 r5
  walk_at "s"
  intro t5 ht5
  walk_at "new"
  intro G6 g6 r6
  walk_at "s"
  intro l6 hl6
  walk_at "new"
  intro G7 g7 r7
  walk_at "s"
  refine Or.inl ⟨l6, 4, _, rfl, rfl, g7, by omega, by omega, Nat.le_of_ble_eq_true rfl, fun l8 hl8 => ?_⟩
  generalize hG8 : upd G7 l8 _ = G8
  have g8 : G8 l8 = some (.lst [.ref t5, .ref t5, .ref t5, .ref t5]) := hG8 ▸ upd_same (H := G7) (a := l8)
  have r8 : Same G7 G8 := hG8 ▸ same_new hl8
  have eF : LamX.ExtN H11 G8 := (((e1.trans e2).trans e3).trans e4).trans (same_ext (((r5.trans r6).trans r7).trans r8))
  have dF8 := dp_ext eF _ _ dpF
  have r58 := (r6.trans r7).trans r8
  have x1 : LamX.ExtN G1 G8 := ((e2.trans e3).trans e4).trans (same_ext (r5.trans r58))
  have one : ∀ {a : Addr}, G8 a = some (.tup [.str "BadDimension", far]) → Dp K G8 (.ref a) (.tuple [.str "BadDimension", fd]) := fun h => .tup (SqT.of h) (.cons (.str _) (.cons dF8 .nil))
  have b1 := one (x1 _ _ g1 (fun _ z => nomatch z))
  have b2 := one (((e3.trans e4).trans (same_ext (r5.trans r58))) _ _ g2 (fun _ z => nomatch z))
  have b3 := one ((e4.trans (same_ext (r5.trans r58))) _ _ g3 (fun _ z => nomatch z))
  have b4 := one (r58 _ _ (r5 _ _ g4))
  have b5 := one (r8 _ _ (r7 _ _ g6))
  walk_at "s"
  refine ⟨ask fd, ask fd, .lst (SqL.of (r58 _ _ g5)) (.cons b1 (.cons b2 (.cons b3 (.cons b4 .nil)))), .lst (SqL.of g8) (.cons b5 (.cons b5 (.cons b5 (.cons b5 .nil)))), ask_shp _ hfd, ask_shp _ hfd, ?_⟩
  rw [eqv_self (ask_shp _ hfd)]
  have T8 : LamX.Tabs (tabs K) G8 := T4'.ext (r5.trans r58)
  walk_at "s"
  refine hear_bad (v := .str "at") (.inr ⟨rfl, rfl⟩) (fun G' Q' E' e b => ?_) fun a9 G9 e9 T9 g9 => ?_
  · walk_at "s"
    exact bad_at hd (kn_dp (dp_ext (eF.trans e) _ _ dpB)) wB b
  walk_at "s"
  intro t9 ht9
  walk_at "new"
  intro G10 g10 r10
  walk_at "s"
  refine ⟨atD, atD, .tup (SqT.of (r10 _ _ g9)) (.cons (.str _) (.cons (.str _) .nil)), .tup (SqT.of g10) (.cons (.str _) (.cons (.str _) .nil)), at_shp, at_shp, ?_⟩
  rw [eqv_self at_shp]
  have eE : LamX.ExtN H11 G10 := (eF.trans e9).trans (same_ext r10)
  refine q _ ?_ (T9.ext r10) ?_
  · refine KpT.trans (kp_kpT ((((same_kp s03).trans k4).trans ((same_kp s5).trans k6)).trans ((same_kp s610).trans k11))) (ext_kpT p eE)
  · have z := pen_ext pen11 eE
    rw [show n + 2 + 1 = n + 3 by omega] at z
    exact z

theorem pu_law {K : PySem.W.Frag} : ∀ vs H Q E, sp_law K vs H Q E → t_law K { nx := fun _ H' => Q .non H', rt := Q } (start n_law vs) H := by
  rintro vs H Q E ⟨a, ns, rfl, sq, len, T, q⟩
  walk_at "s"
  refine ⟨a, ns, rfl, sq, len, fun p c H1 np nc s1 pen => ?_⟩
  have T1 : LamX.Tabs (tabs K) H1 := T.ext s1
  walk_at "s"
  refine ⟨3, rfl, by omega, by omega, ?_⟩
  refine for_it walk_range (fun i σ G => (∃ v2 v3, σ = [some (V.ref a), some (V.ref p), v2, v3]) ∧ LamX.Tabs (tabs K) G ∧ Pen G p c (3 * (i : Int))) ?_ (fun _ _ _ _ _ => trivial) ?_ ?_
  · exact ⟨⟨_, _, rfl⟩, T1, pen⟩
  · rintro i x σ G G' hi ⟨⟨v2, v3, rfl⟩, TG, pG⟩ ⟨rfl, rfl⟩
    walk_at "s"
    refine ⟨p, c, 3 * (i : Int), rfl, pG, by unfold LIM; omega, TG, fun G2 _ T2 p2 => ?_⟩
    walk_at "s"
    refine ⟨⟨_, _, rfl⟩, T2, ?_⟩
    have e : 3 * (i : Int) + 3 = 3 * ((i + 1 : Nat) : Int) := by omega
    rw [e] at p2
    exact p2
  · rintro σ G ⟨⟨v2, v3, rfl⟩, TG, pG⟩
    walk_at "s"
    refine Or.inr (Or.inl ?_)
    walk_at "s"
    intro t ht
    generalize hG1 : upd G t _ = G1
    have h1 : G1 t = some (.tup [.int 1, .int 2, .int 3]) := hG1 ▸ upd_same (H := G) (a := t)
    walk_at "s"
    refine ⟨t, rfl, ⟨_, SqT.of h1⟩, ?_⟩
    walk_at "s"
    intro D hD
    refine lc_D (K := K) walk_tup G1 (fun i => if i < 3 then some (.bool true) else none) hD (Same.refl _) (Nat.le_of_ble_eq_true rfl) (fun G' s => same_seqT s (SqT.of h1)) (fun _ _ _ _ _ y => by obtain ⟨rfl, _⟩ := y; exact Same.refl _) ?_ ?_
    · rintro i x G2 G3 Q' R hi sg ⟨zs, hz⟩ ⟨rfl, hx⟩ k1 _
      have ex : ∃ d, x = .int d ∧ Dim d := by
        match i, hi, hx with
        | 0, _, hx => exact ⟨1, (Option.some.inj hx).symm, .inl rfl⟩
        | 1, _, hx => exact ⟨2, (Option.some.inj hx).symm, .inr (.inl rfl)⟩
        | 2, _, hx => exact ⟨3, (Option.some.inj hx).symm, .inr (.inr rfl)⟩
        | (i + 3), hi, _ => simp at hi; omega
      obtain ⟨d, rfl, hd⟩ := ex
      walk_at "s"
      refine ⟨_, d, rfl, hd, fun H4 s4 => ?_⟩
      have hi3 : i < 3 := hi
      exact k1 H4 _ _ s4 (if_pos hi3) (.bl true)
    · rintro G2 sg ⟨ys, hys, dys⟩ _
      have dys : DpAll K (nw G1 G2) ys ([true, true, true].map PyData.bool) := dys
      have e := dpa_bools dys
      subst e
      walk_at "s"
      refine ⟨[true, true, true], SqL.of hys, ?_⟩
      walk_at "s"
      exact q _
theorem law_in {K : PySem.W.Frag} {H : Hp} {a : Addr} {ns : List Int} {E : XK} (hl : ns.length ≤ 63) (hb : ∀ z ∈ ns, Builtin.Int.intBits z ≤ 1048576) (hT : ∀ p ∈ tf, H (He.cT K p).2 = some (.tbl #[])) (hS : SqL K H a (ns.map V.int)) : sp_law K [.ref a] H (fun v _ => v = .bl true) E := by
  refine ⟨a, ns, rfl, hS, hl, fun p hp => ?_, fun _ => rfl⟩
  obtain rfl := List.mem_singleton.mp hp
  exact LamX.TabS.nil (hT _ (List.mem_singleton.mpr rfl))

end
end GW
namespace GW
open PySem PyProof.Rows L2
theorem fk_is_integer {P : Program} {w : World} {K : PySem.W.Frag} {mg : Str → Option Value} {base : Heap} (T : Top K mg)  {fd : FuncData} (F : FnP K "is_integer" "is_integer" s_is_integer (He.fAd K ("is_integer", none)) fd) : FnOk P w K mg base CX0 1 (He.fAd K ("is_integer", none)) fd ["value"] (sp_is_integer K) := by
  refine F.ok sc_is_integer ln_is_integer (fun cdv A outer s H vs Q E hr h => ⟨t_is_integer K, PSs.nox ?_, pu_is_integer vs H Q E h⟩)
  exact (pss_one (ps_ret (ue_and (pe_callB (call_is1 .int) rfl T.b_isinstance boot_isinstance (pa_cons (uv 0) (pa_cons (pe_bltn rfl T.b_int (by decide +kernel) rfl) pa_nil))) (pe_one (ue_not (pe_callB (call_is1 .bl) rfl T.b_isinstance boot_isinstance (pa_cons (uv 0) (pa_cons (pe_bltn rfl T.b_bool (by decide +kernel) rfl) pa_nil))))))))
theorem ok_is_integer {P : Program} {w : World} {K : PySem.W.Frag} {mg : Str → Option Value} {base : Heap} (T : Top K mg)  : ∃ fd, FnP K "is_integer" "is_integer" s_is_integer (He.fAd K ("is_integer", none)) fd ∧ FnOk P w K mg base CX0 1 (He.fAd K ("is_integer", none)) fd ["value"] (sp_is_integer K) :=
  let ⟨fd, F⟩ := T.d_is_integer
  ⟨fd, F, fk_is_integer T  F⟩
theorem cl_is_integer {P : Program} {w : World} {K : PySem.W.Frag} {mg : Str → Option Value} {base : Heap} (T : Top K mg) (h : ∃ fd, FnP K "is_integer" "is_integer" s_is_integer (He.fAd K ("is_integer", none)) fd ∧ FnOk P w K mg base CX0 1 (He.fAd K ("is_integer", none)) fd ["value"] (sp_is_integer K)) : Cal P w K mg base CX0 "is_integer" 1 ["value"] (sp_is_integer K) := by
  obtain ⟨fd, F, h⟩ := h
  exact ⟨⟨fd, h, F.bindsN fun _ _ _ _ _ _ us hl => match us, hl with | [_], _ => rfl⟩, T.a_is_integer, F.kp⟩
theorem e0_BadDimension {P : Program} {w : World} {K : PySem.W.Frag} {mg : Str → Option Value} {base : Heap} (T : Top K mg) : CalE P w K mg base "BadDimension" 1 ["self", "value"] ["value"] := by
  obtain ⟨fd, F⟩ := T.d_BadDimension
  refine ⟨T.ef.e_BadDimension, T.ef.n_BadDimension, T.a_BadDimension, fd, F.ok sc_BadDimension (ln_err rfl) (fun cdv A outer s H vs Q E hr h => ⟨t_BadDimension K, PSs.nox ?_, pu_err1 vs H Q E h⟩), F.bindsN fun _ _ _ _ _ _ us hl => match us, hl with | [_, _], _ => rfl⟩
  exact (pss_one (ps_ost (uv 0) (uv 1)))
theorem e0_BadNumber {P : Program} {w : World} {K : PySem.W.Frag} {mg : Str → Option Value} {base : Heap} (T : Top K mg) : CalE P w K mg base "BadNumber" 1 ["self", "part"] ["part"] := by
  obtain ⟨fd, F⟩ := T.d_BadNumber
  refine ⟨T.ef.e_BadNumber, T.ef.n_BadNumber, T.a_BadNumber, fd, F.ok sc_BadNumber (ln_err rfl) (fun cdv A outer s H vs Q E hr h => ⟨t_BadNumber K, PSs.nox ?_, pu_err1 vs H Q E h⟩), F.bindsN fun _ _ _ _ _ _ us hl => match us, hl with | [_, _], _ => rfl⟩
  exact (pss_one (ps_ost (uv 0) (uv 1)))
theorem fk_width_of {P : Program} {w : World} {K : PySem.W.Frag} {mg : Str → Option Value} {base : Heap} (T : Top K mg)  {fd : FuncData} (F : FnP K "width_of" "width_of" s_width_of (He.fAd K ("width_of", none)) fd) : FnOk P w K mg base CX0 1 (He.fAd K ("width_of", none)) fd ["dimension"] (sp_width_of K) := by
  refine F.ok sc_width_of ln_width_of (fun cdv A outer s H vs Q E hr h => ⟨t_width_of K, PSs.nox ?_, pu_width_of vs H Q E h⟩)
  exact (pss_one (ps_ret (pe_op uo_div (pe_op uo_mulU (uv 0) (pe_op uo_add (uv 0) pe_int)) pe_int)))
theorem ok_width_of {P : Program} {w : World} {K : PySem.W.Frag} {mg : Str → Option Value} {base : Heap} (T : Top K mg)  : ∃ fd, FnP K "width_of" "width_of" s_width_of (He.fAd K ("width_of", none)) fd ∧ FnOk P w K mg base CX0 1 (He.fAd K ("width_of", none)) fd ["dimension"] (sp_width_of K) :=
  let ⟨fd, F⟩ := T.d_width_of
  ⟨fd, F, fk_width_of T  F⟩
theorem cl_width_of {P : Program} {w : World} {K : PySem.W.Frag} {mg : Str → Option Value} {base : Heap} (T : Top K mg) (h : ∃ fd, FnP K "width_of" "width_of" s_width_of (He.fAd K ("width_of", none)) fd ∧ FnOk P w K mg base CX0 1 (He.fAd K ("width_of", none)) fd ["dimension"] (sp_width_of K)) : Cal P w K mg base CX0 "width_of" 1 ["dimension"] (sp_width_of K) := by
  obtain ⟨fd, F, h⟩ := h
  exact ⟨⟨fd, h, F.bindsN fun _ _ _ _ _ _ us hl => match us, hl with | [_], _ => rfl⟩, T.a_width_of, F.kp⟩
theorem fk_corners_in {P : Program} {w : World} {K : PySem.W.Frag} {mg : Str → Option Value} {base : Heap} (T : Top K mg)  {fd : FuncData} (F : FnP K "corners_in" "corners_in" s_corners_in (He.fAd K ("corners_in", none)) fd) : FnOk P w K mg base CX0 1 (He.fAd K ("corners_in", none)) fd ["dimension"] (sp_corners_in K) := by
  refine F.ok sc_corners_in ln_corners_in (fun cdv A outer s H vs Q E hr h => ⟨t_corners_in K, PSs.nox ?_, pu_corners_in vs H Q E h⟩)
  exact (pss_cons (us_set 1 sc_corners_in.nd (pe_lst (pa_cons (pe_op uo_mulU (pe_tup (pa_cons pe_int pa_nil)) (uv 0)) pa_nil)))
    (pss_cons (ps_for PassesOwn.never rfl (pi_range1 rfl T.b_range (pa_cons (uv 0) pa_nil)) (ugn 2 sc_corners_in.nd) (pss_one (ps_expr (pe_bm PySem.F.plainAttrs_list PySem.F.slot_list_append PySem.F.type_list_append mt_append (uv 1) (pa_cons (pe_callTy cu_tup rfl T.b_tuple (by decide +kernel) (pa_cons (pe_lc (own := [("spot", 3)]) rfl sc_corners_in.nd (pi_range1 rfl T.b_range (pa_cons (uv 0) pa_nil)) (blkOk_by (own := [("spot", 3)]) (by kernel_rfl)) (fun _ _ _ _ _ => (ugn 3 sc_corners_in.nd)) (fun _ _ _ _ _ => pts_nil) (fun _ _ _ _ _ => (pe_callTy cu_int rfl T.b_int (by decide +kernel) (pa_cons (pe_cmpR (uo_eq hr.units) (uv 3) (uv 2) (nomark _)) pa_nil)))) pa_nil)) pa_nil)))))
    (pss_one (ps_ret (pe_callTy cu_tup rfl T.b_tuple (by decide +kernel) (pa_cons (uv 1) pa_nil))))))
theorem ok_corners_in {P : Program} {w : World} {K : PySem.W.Frag} {mg : Str → Option Value} {base : Heap} (T : Top K mg)  : ∃ fd, FnP K "corners_in" "corners_in" s_corners_in (He.fAd K ("corners_in", none)) fd ∧ FnOk P w K mg base CX0 1 (He.fAd K ("corners_in", none)) fd ["dimension"] (sp_corners_in K) :=
  let ⟨fd, F⟩ := T.d_corners_in
  ⟨fd, F, fk_corners_in T  F⟩
theorem cl_corners_in {P : Program} {w : World} {K : PySem.W.Frag} {mg : Str → Option Value} {base : Heap} (T : Top K mg) (h : ∃ fd, FnP K "corners_in" "corners_in" s_corners_in (He.fAd K ("corners_in", none)) fd ∧ FnOk P w K mg base CX0 1 (He.fAd K ("corners_in", none)) fd ["dimension"] (sp_corners_in K)) : Cal P w K mg base CX0 "corners_in" 1 ["dimension"] (sp_corners_in K) := by
  obtain ⟨fd, F, h⟩ := h
  exact ⟨⟨fd, h, F.bindsN fun _ _ _ _ _ _ us hl => match us, hl with | [_], _ => rfl⟩, T.a_corners_in, F.kp⟩
theorem fk_law_pen {P : Program} {w : World} {K : PySem.W.Frag} {mg : Str → Option Value} {base : Heap} (T : Top K mg)  {fd : FuncData} (F : FnP K "_law_pen" "_law_pen" s_law_pen (He.fAd K ("_law_pen", none)) fd) : FnOk P w K mg base CX0 1 (He.fAd K ("_law_pen", none)) fd ["script"] (sp_law_pen K) := by
  refine F.ok sc_law_pen ln_law_pen (fun cdv A outer s H vs Q E hr h => ⟨t_law_pen K, PSs.nox ?_, pu_law_pen vs H Q E h⟩)
  exact (pss_one (ps_ret (pe_lst (pa_cons (pe_lc (own := [("cell", 1)]) rfl sc_law_pen.nd (ui (pe_slice us (uv 0) po_none (upo pe_int))) (blkOk_by (own := [("cell", 1)]) (by kernel_rfl)) (fun _ _ _ _ _ => (ugn 1 sc_law_pen.nd)) (fun _ _ _ _ _ => pts_nil) (fun _ _ _ _ _ => (pe_callTy cu_int rfl T.b_int (by decide +kernel) (pa_cons (uv 1) pa_nil)))) (pa_cons pe_int (pa_cons pe_int pa_nil))))))
theorem ok_law_pen {P : Program} {w : World} {K : PySem.W.Frag} {mg : Str → Option Value} {base : Heap} (T : Top K mg)  : ∃ fd, FnP K "_law_pen" "_law_pen" s_law_pen (He.fAd K ("_law_pen", none)) fd ∧ FnOk P w K mg base CX0 1 (He.fAd K ("_law_pen", none)) fd ["script"] (sp_law_pen K) :=
  let ⟨fd, F⟩ := T.d_law_pen
  ⟨fd, F, fk_law_pen T  F⟩
theorem cl_law_pen {P : Program} {w : World} {K : PySem.W.Frag} {mg : Str → Option Value} {base : Heap} (T : Top K mg) (h : ∃ fd, FnP K "_law_pen" "_law_pen" s_law_pen (He.fAd K ("_law_pen", none)) fd ∧ FnOk P w K mg base CX0 1 (He.fAd K ("_law_pen", none)) fd ["script"] (sp_law_pen K)) : Cal P w K mg base CX0 "_law_pen" 1 ["script"] (sp_law_pen K) := by
  obtain ⟨fd, F, h⟩ := h
  exact ⟨⟨fd, h, F.bindsN fun _ _ _ _ _ _ us hl => match us, hl with | [_], _ => rfl⟩, T.a_law_pen, F.kp⟩
theorem fk_law_draw {P : Program} {w : World} {K : PySem.W.Frag} {mg : Str → Option Value} {base : Heap} (T : Top K mg)  {fd : FuncData} (F : FnP K "_law_draw" "_law_draw" s_law_draw (He.fAd K ("_law_draw", none)) fd) : FnOk P w K mg base CX0 1 (He.fAd K ("_law_draw", none)) fd ["pen", "many"] (sp_law_draw K) := by
  refine F.ok sc_law_draw ln_law_draw (fun cdv A outer s H vs Q E hr h => ⟨t_law_draw K, PSs.nox ?_, pu_law_draw vs H Q E h⟩)
  exact (pss_cons (ps_if (utc uo_gt (pe_ix (ux (hu_of hr)) (uv 0) pe_int (fun _ _ => rfl)) pe_int (nomark _)) (pss_cons (us_set 2 sc_law_draw.nd (pe_ix (ux (hu_of hr)) (uv 0) pe_int (fun _ _ => rfl)))
    (pss_cons (ps_asg (pe_op uo_div (pe_callTy cu_int rfl T.b_int (by decide +kernel) (pa_cons (uv 2) pa_nil)) (uv 1)) (pg_sub (uv 0) pe_int (uset (hu_of hr))))
    (pss_one (ps_ret (pe_op uo_mod (pe_callTy cu_int rfl T.b_int (by decide +kernel) (pa_cons (uv 2) pa_nil)) (uv 1)))))) pss_nil)
    (pss_cons (us_set 3 sc_law_draw.nd (pe_ix (ux (hu_of hr)) (uv 0) pe_int (fun _ _ => rfl)))
    (pss_cons (ps_asg (pe_op uo_add (uv 3) pe_int) (pg_sub (uv 0) pe_int (uset (hu_of hr))))
    (pss_cons (us_set 4 sc_law_draw.nd (pe_op uo_add (pe_op uo_mulU pe_int (uv 3)) pe_int))
    (pss_cons (ps_if (utc (uo_ne hr.units) (pe_ix (ux (hu_of hr)) (uv 0) pe_int (fun _ _ => rfl)) (pe_lst pa_nil) (nomark _)) (pss_one (us_set 4 sc_law_draw.nd (pe_ix (ux (hu_of hr)) (pe_ix (ux (hu_of hr)) (uv 0) pe_int (fun _ _ => rfl)) (pe_op uo_mod (pe_callTy cu_int rfl T.b_int (by decide +kernel) (pa_cons (uv 3) pa_nil)) (pe_callB cu_len rfl T.b_len (by decide +kernel) (pa_cons (pe_ix (ux (hu_of hr)) (uv 0) pe_int (fun _ _ => rfl)) pa_nil))) (fun _ _ => rfl)))) pss_nil)
    (pss_cons (ps_if (PW.pt (pw_and (utc uo_lt (uv 3) (pe_callB cu_len rfl T.b_len (by decide +kernel) (pa_cons (pe_ix (ux (hu_of hr)) (uv 0) pe_int (fun _ _ => rfl)) pa_nil)) (nomark _)) (pw_and1 (utc uo_ge (pe_callB cu_abs rfl T.b_abs (by decide +kernel) (pa_cons (uv 4) pa_nil)) (pe_op uo_pow pe_int pe_int) (nomark _))))) (pss_cons (us_set 2 sc_law_draw.nd (pe_op uo_add (pe_op uo_mulU pe_int (pe_op uo_sub (pe_callB cu_abs rfl T.b_abs (by decide +kernel) (pa_cons (uv 4) pa_nil)) (pe_op uo_pow pe_int pe_int))) (pe_callTy cu_int rfl T.b_int (by decide +kernel) (pa_cons (pe_cmpR uo_lt (uv 4) pe_int (nomark _)) pa_nil))))
    (pss_cons (ps_asg (pe_op uo_div (pe_callTy cu_int rfl T.b_int (by decide +kernel) (pa_cons (uv 2) pa_nil)) (uv 1)) (pg_sub (uv 0) pe_int (uset (hu_of hr))))
    (pss_one (ps_ret (pe_op uo_mod (pe_callTy cu_int rfl T.b_int (by decide +kernel) (pa_cons (uv 2) pa_nil)) (uv 1)))))) pss_nil)
    (pss_cons (us_set 5 sc_law_draw.nd (pe_op uo_mod (pe_callTy cu_int rfl T.b_int (by decide +kernel) (pa_cons (pe_op uo_pow (pe_op uo_add (pe_op uo_add (pe_op uo_mod (pe_callTy cu_int rfl T.b_int (by decide +kernel) (pa_cons (uv 4) pa_nil)) pe_int) (pe_op uo_mulU pe_int (uv 3))) pe_int) pe_int) pa_nil)) pe_int))
    (pss_cons (us_set 5 sc_law_draw.nd (pe_op uo_mod (pe_callTy cu_int rfl T.b_int (by decide +kernel) (pa_cons (pe_op uo_pow (pe_op uo_add (pe_op uo_add (pe_op uo_mulU (uv 5) (pe_op uo_add (pe_op uo_mulU pe_int (uv 3)) pe_int)) (pe_op uo_mulU (pe_op uo_mulU pe_int (uv 3)) (uv 3))) pe_int) pe_int) pa_nil)) pe_int))
    (pss_one (ps_ret (pe_op uo_mod (pe_callTy cu_int rfl T.b_int (by decide +kernel) (pa_cons (pe_op uo_div (uv 5) pe_int) pa_nil)) (uv 1))))))))))))
theorem ok_law_draw {P : Program} {w : World} {K : PySem.W.Frag} {mg : Str → Option Value} {base : Heap} (T : Top K mg)  : ∃ fd, FnP K "_law_draw" "_law_draw" s_law_draw (He.fAd K ("_law_draw", none)) fd ∧ FnOk P w K mg base CX0 1 (He.fAd K ("_law_draw", none)) fd ["pen", "many"] (sp_law_draw K) :=
  let ⟨fd, F⟩ := T.d_law_draw
  ⟨fd, F, fk_law_draw T  F⟩
theorem cl_law_draw {P : Program} {w : World} {K : PySem.W.Frag} {mg : Str → Option Value} {base : Heap} (T : Top K mg) (h : ∃ fd, FnP K "_law_draw" "_law_draw" s_law_draw (He.fAd K ("_law_draw", none)) fd ∧ FnOk P w K mg base CX0 1 (He.fAd K ("_law_draw", none)) fd ["pen", "many"] (sp_law_draw K)) : Cal P w K mg base CX0 "_law_draw" 1 ["pen", "many"] (sp_law_draw K) := by
  obtain ⟨fd, F, h⟩ := h
  exact ⟨⟨fd, h, F.bindsN fun _ _ _ _ _ _ us hl => match us, hl with | [_, _], _ => rfl⟩, T.a_law_draw, F.kp⟩
theorem fk_law_speed {P : Program} {w : World} {K : PySem.W.Frag} {mg : Str → Option Value} {base : Heap} (T : Top K mg)  {fd : FuncData} (F : FnP K "_law_speed" "_law_speed" s_law_speed (He.fAd K ("_law_speed", none)) fd) : FnOk P w K mg base CX0 1 (He.fAd K ("_law_speed", none)) fd ["motion", "point"] (sp_law_speed K) := by
  refine F.ok sc_law_speed ln_law_speed (fun cdv A outer s H vs Q E hr h => ⟨t_law_speed K, PSs.nox ?_, pu_law_speed vs H Q E h⟩)
  exact (pss_cons (ps_if (utc (uo_eq hr.units) (pe_callB cu_len rfl T.b_len (by decide +kernel) (pa_cons (uv 1) pa_nil)) pe_int (nomark _)) (pss_one (ps_ret (pe_lst (pa_cons (pe_ix (ux (hu_of hr)) (uv 0) pe_int (fun _ _ => rfl)) pa_nil)))) pss_nil)
    (pss_cons (ps_if (utc (uo_eq hr.units) (pe_callB cu_len rfl T.b_len (by decide +kernel) (pa_cons (uv 1) pa_nil)) pe_int (nomark _)) (pss_one (ps_ret (pe_lst (pa_cons (pe_op uo_sub (pe_ix (ux (hu_of hr)) (uv 0) pe_int (fun _ _ => rfl)) (pe_op uo_mulU (pe_ix (ux (hu_of hr)) (uv 0) pe_int (fun _ _ => rfl)) (pe_ix (ux (hu_of hr)) (uv 1) pe_int (fun _ _ => rfl)))) (pa_cons (pe_op uo_add (pe_ix (ux (hu_of hr)) (uv 0) pe_int (fun _ _ => rfl)) (pe_op uo_mulU (pe_ix (ux (hu_of hr)) (uv 0) pe_int (fun _ _ => rfl)) (pe_ix (ux (hu_of hr)) (uv 1) pe_int (fun _ _ => rfl)))) pa_nil))))) pss_nil)
    (pss_cons (us_set 2 sc_law_speed.nd (pe_op uo_sub (pe_op uo_add (pe_ix (ux (hu_of hr)) (uv 0) pe_int (fun _ _ => rfl)) (pe_op uo_mulU (pe_ix (ux (hu_of hr)) (uv 0) pe_int (fun _ _ => rfl)) (pe_ix (ux (hu_of hr)) (uv 1) pe_int (fun _ _ => rfl)))) (pe_op uo_mulU (pe_ix (ux (hu_of hr)) (uv 0) pe_int (fun _ _ => rfl)) (pe_ix (ux (hu_of hr)) (uv 1) pe_int (fun _ _ => rfl)))))
    (pss_cons (us_set 3 sc_law_speed.nd (pe_op uo_sub (pe_op uo_add (pe_ix (ux (hu_of hr)) (uv 0) pe_int (fun _ _ => rfl)) (pe_op uo_mulU (pe_ix (ux (hu_of hr)) (uv 0) pe_int (fun _ _ => rfl)) (pe_ix (ux (hu_of hr)) (uv 1) pe_int (fun _ _ => rfl)))) (pe_op uo_mulU (pe_ix (ux (hu_of hr)) (uv 0) pe_int (fun _ _ => rfl)) (pe_ix (ux (hu_of hr)) (uv 1) pe_int (fun _ _ => rfl)))))
    (pss_one (ps_ret (pe_lst (pa_cons (uv 2) (pa_cons (uv 3) (pa_cons (pe_op uo_sub (pe_op uo_add (pe_ix (ux (hu_of hr)) (uv 0) pe_int (fun _ _ => rfl)) (pe_op uo_mulU (pe_ix (ux (hu_of hr)) (uv 0) pe_int (fun _ _ => rfl)) (pe_ix (ux (hu_of hr)) (uv 1) pe_int (fun _ _ => rfl)))) (pe_op uo_mulU (pe_ix (ux (hu_of hr)) (uv 0) pe_int (fun _ _ => rfl)) (pe_ix (ux (hu_of hr)) (uv 1) pe_int (fun _ _ => rfl)))) pa_nil))))))))))
theorem ok_law_speed {P : Program} {w : World} {K : PySem.W.Frag} {mg : Str → Option Value} {base : Heap} (T : Top K mg)  : ∃ fd, FnP K "_law_speed" "_law_speed" s_law_speed (He.fAd K ("_law_speed", none)) fd ∧ FnOk P w K mg base CX0 1 (He.fAd K ("_law_speed", none)) fd ["motion", "point"] (sp_law_speed K) :=
  let ⟨fd, F⟩ := T.d_law_speed
  ⟨fd, F, fk_law_speed T  F⟩
theorem cl_law_speed {P : Program} {w : World} {K : PySem.W.Frag} {mg : Str → Option Value} {base : Heap} (T : Top K mg) (h : ∃ fd, FnP K "_law_speed" "_law_speed" s_law_speed (He.fAd K ("_law_speed", none)) fd ∧ FnOk P w K mg base CX0 1 (He.fAd K ("_law_speed", none)) fd ["motion", "point"] (sp_law_speed K)) : Cal P w K mg base CX0 "_law_speed" 1 ["motion", "point"] (sp_law_speed K) := by
  obtain ⟨fd, F, h⟩ := h
  exact ⟨⟨fd, h, F.bindsN fun _ _ _ _ _ _ us hl => match us, hl with | [_, _], _ => rfl⟩, T.a_law_speed, F.kp⟩
theorem fk_law_units {P : Program} {w : World} {K : PySem.W.Frag} {mg : Str → Option Value} {base : Heap} (T : Top K mg)  {fd : FuncData} (F : FnP K "_law_units" "_law_units" s_law_units (He.fAd K ("_law_units", none)) fd) : FnOk P w K mg base CX0 1 (He.fAd K ("_law_units", none)) fd ["width"] (sp_law_units K) := by
  refine F.ok sc_law_units ln_law_units (fun cdv A outer s H vs Q E hr h => ⟨t_law_units K, PSs.nox ?_, pu_law_units vs H Q E h⟩)
  exact (pss_one (ps_ret (pe_lc (own := [("spot", 1)]) rfl sc_law_units.nd (pi_range1 rfl T.b_range (pa_cons (uv 0) pa_nil)) (blkOk_by (own := [("spot", 1)]) (by kernel_rfl)) (fun _ _ _ _ _ => (ugn 1 sc_law_units.nd)) (fun _ _ _ _ _ => pts_nil) (fun _ _ _ _ _ => (pe_lc (own := [("at", 2)]) rfl sc_law_units.nd (pi_range1 rfl T.b_range (pa_cons (uv 0) pa_nil)) (blkOk_by (own := [("at", 2)]) (by kernel_rfl)) (fun _ _ _ _ _ => (ugn 2 sc_law_units.nd)) (fun _ _ _ _ _ => pts_nil) (fun _ _ _ _ _ => (pe_callTy cu_int rfl T.b_int (by decide +kernel) (pa_cons (pe_cmpR (uo_eq hr.units) (uv 2) (uv 1) (nomark _)) pa_nil))))))))
theorem ok_law_units {P : Program} {w : World} {K : PySem.W.Frag} {mg : Str → Option Value} {base : Heap} (T : Top K mg)  : ∃ fd, FnP K "_law_units" "_law_units" s_law_units (He.fAd K ("_law_units", none)) fd ∧ FnOk P w K mg base CX0 1 (He.fAd K ("_law_units", none)) fd ["width"] (sp_law_units K) :=
  let ⟨fd, F⟩ := T.d_law_units
  ⟨fd, F, fk_law_units T  F⟩
theorem cl_law_units {P : Program} {w : World} {K : PySem.W.Frag} {mg : Str → Option Value} {base : Heap} (T : Top K mg) (h : ∃ fd, FnP K "_law_units" "_law_units" s_law_units (He.fAd K ("_law_units", none)) fd ∧ FnOk P w K mg base CX0 1 (He.fAd K ("_law_units", none)) fd ["width"] (sp_law_units K)) : Cal P w K mg base CX0 "_law_units" 1 ["width"] (sp_law_units K) := by
  obtain ⟨fd, F, h⟩ := h
  exact ⟨⟨fd, h, F.bindsN fun _ _ _ _ _ _ us hl => match us, hl with | [_], _ => rfl⟩, T.a_law_units, F.kp⟩
theorem fk_law_pivots {P : Program} {w : World} {K : PySem.W.Frag} {mg : Str → Option Value} {base : Heap} (T : Top K mg)  {fd : FuncData} (F : FnP K "_law_pivots" "_law_pivots" s_law_pivots (He.fAd K ("_law_pivots", none)) fd) : FnOk P w K mg base CX0 1 (He.fAd K ("_law_pivots", none)) fd ["rows", "width"] (sp_law_pivots K) := by
  refine F.ok sc_law_pivots ln_law_pivots (fun cdv A outer s H vs Q E hr h => ⟨t_law_pivots K, PSs.nox ?_, pu_law_pivots vs H Q E h⟩)
  exact (pss_cons (ps_asg (pe_tup (pa_cons (pe_lc (own := [("row", 10)]) rfl sc_law_pivots.nd (ui (uv 0)) (blkOk_by (own := [("row", 10)]) (by kernel_rfl)) (fun _ _ _ _ _ => (ugn 10 sc_law_pivots.nd)) (fun _ _ _ _ _ => pts_nil) (fun _ _ _ _ _ => (pe_callTy cu_list rfl T.b_list (by decide +kernel) (pa_cons (uv 10) pa_nil)))) (pa_cons (pe_lst pa_nil) (pa_cons pe_int pa_nil)))) (pg_tup (by rfl) (pgs_cons (ugn 2 sc_law_pivots.nd) (pgs_cons (ugn 3 sc_law_pivots.nd) (pgs_cons (ugn 4 sc_law_pivots.nd) pgs_nil)))))
    (pss_cons (ps_for PassesOwn.never rfl (pi_range1 rfl T.b_range (pa_cons (uv 1) pa_nil)) (ugn 5 sc_law_pivots.nd) (pss_cons (ps_setLc (i := 6) (own := [("at", 8)]) rfl sc_law_pivots.nd rfl rfl (sw_true rfl rfl rfl (by kernel_rfl)) (pi_range2 rfl T.b_range (pa_cons (pe_callB cu_len rfl T.b_len (by decide +kernel) (pa_cons (uv 3) pa_nil)) (pa_cons (pe_callB cu_len rfl T.b_len (by decide +kernel) (pa_cons (uv 2) pa_nil)) pa_nil))) (blkOk_by (own := [("at", 8)]) (by kernel_rfl)) (fun _ _ _ _ _ => (ugn 8 sc_law_pivots.nd)) (fun _ _ _ _ _ => (pts_one (utc (uo_ne hr.units) (pe_ix (ux (hu_of hr)) (pe_ix (ux (hu_of hr)) (uv 2) (uv 8) (fun _ _ => rfl)) (uv 5) (fun _ _ => rfl)) pe_int (nomark _)))) (fun _ _ _ _ _ => (uv 8)))
    (pss_one (ps_if (utc (uo_ne hr.units) (uv 6) (pe_lst pa_nil) (nomark _)) (pss_cons (us_set 7 sc_law_pivots.nd (pe_bm PySem.F.plainAttrs_list PySem.F.slot_list_pop PySem.F.type_list_pop mt_popAt (uv 2) (pa_cons (pe_ix (ux (hu_of hr)) (uv 6) pe_int (fun _ _ => rfl)) pa_nil)))
    (pss_cons (ps_for PassesOwn.never rfl (pi_range2 rfl T.b_range (pa_cons (pe_callB cu_len rfl T.b_len (by decide +kernel) (pa_cons (uv 3) pa_nil)) (pa_cons (pe_callB cu_len rfl T.b_len (by decide +kernel) (pa_cons (uv 2) pa_nil)) pa_nil))) (ugn 8 sc_law_pivots.nd) (pss_cons (us_set 9 sc_law_pivots.nd (pe_ix (ux (hu_of hr)) (uv 2) (uv 8) (fun _ _ => rfl)))
    (pss_one (ps_asg (pe_lc (own := [("spot", 11)]) rfl sc_law_pivots.nd (pi_range1 rfl T.b_range (pa_cons (uv 1) pa_nil)) (blkOk_by (own := [("spot", 11)]) (by kernel_rfl)) (fun _ _ _ _ _ => (ugn 11 sc_law_pivots.nd)) (fun _ _ _ _ _ => pts_nil) (fun _ _ _ _ _ => (pe_op uo_divN (pe_op uo_sub (pe_op uo_mulU (pe_ix (ux (hu_of hr)) (uv 7) (uv 5) (fun _ _ => rfl)) (pe_ix (ux (hu_of hr)) (uv 9) (uv 11) (fun _ _ => rfl))) (pe_op uo_mulU (pe_ix (ux (hu_of hr)) (uv 9) (uv 5) (fun _ _ => rfl)) (pe_ix (ux (hu_of hr)) (uv 7) (uv 11) (fun _ _ => rfl)))) (uv 4)))) (pg_sub (uv 2) (uv 8) (uset (hu_of hr)))))))
    (pss_cons (ps_expr (pe_bm PySem.F.plainAttrs_list PySem.F.slot_list_insert PySem.F.type_list_insert mt_insert (uv 2) (pa_cons (pe_callB cu_len rfl T.b_len (by decide +kernel) (pa_cons (uv 3) pa_nil)) (pa_cons (uv 7) pa_nil))))
    (pss_cons (us_set 4 sc_law_pivots.nd (pe_ix (ux (hu_of hr)) (uv 7) (uv 5) (fun _ _ => rfl)))
    (pss_one (ps_expr (pe_bm PySem.F.plainAttrs_list PySem.F.slot_list_append PySem.F.type_list_append mt_append (uv 3) (pa_cons (uv 5) pa_nil)))))))) pss_nil))))
    (pss_one (ps_ret (uv 3)))))
theorem ok_law_pivots {P : Program} {w : World} {K : PySem.W.Frag} {mg : Str → Option Value} {base : Heap} (T : Top K mg)  : ∃ fd, FnP K "_law_pivots" "_law_pivots" s_law_pivots (He.fAd K ("_law_pivots", none)) fd ∧ FnOk P w K mg base CX0 1 (He.fAd K ("_law_pivots", none)) fd ["rows", "width"] (sp_law_pivots K) :=
  let ⟨fd, F⟩ := T.d_law_pivots
  ⟨fd, F, fk_law_pivots T  F⟩
theorem cl_law_pivots {P : Program} {w : World} {K : PySem.W.Frag} {mg : Str → Option Value} {base : Heap} (T : Top K mg) (h : ∃ fd, FnP K "_law_pivots" "_law_pivots" s_law_pivots (He.fAd K ("_law_pivots", none)) fd ∧ FnOk P w K mg base CX0 1 (He.fAd K ("_law_pivots", none)) fd ["rows", "width"] (sp_law_pivots K)) : Cal P w K mg base CX0 "_law_pivots" 1 ["rows", "width"] (sp_law_pivots K) := by
  obtain ⟨fd, F, h⟩ := h
  exact ⟨⟨fd, h, F.bindsN fun _ _ _ _ _ _ us hl => match us, hl with | [_, _], _ => rfl⟩, T.a_law_pivots, F.kp⟩
theorem c0_law_heard {P : Program} {w : World} {K : PySem.W.Frag} {mg : Str → Option Value} {base : Heap} (T : Top K mg)  : CalH P w K mg base "_law_heard" "ask" 1 (fun _ => True) (TT_law_heard K) := by
  obtain ⟨fd, F⟩ := T.d_law_heard
  obtain ⟨oc, od, dV, kV, doc, pm, an, cdv, ct, osl, rfl, lk, hcd, _⟩ := F.ex
  refine ⟨⟨_, _, _, dV, kV, doc, pm, cdv, ct, oc, an, od, osl, n_law_heard, lk, hcd, F.bindsN fun _ _ _ _ _ _ us hl => match us, hl with | [_], _ => rfl, sc_law_heard, rfl, Or.inl rfl, ?_⟩, T.a_law_heard, F.kp⟩
  intro X h1 h2 h3 h4 h5 _ room s H f c' q T' Q act code h
  cases X
  dsimp only at h1 h2 h3 h4 h5
  replace h1 := h1.symm; subst h1
  replace h2 := h2.symm; subst h2
  replace h3 := h3.symm; subst h3
  replace h4 := h4.symm; subst h4
  replace h5 := h5.symm; subst h5
  have hr := room.deeper (envOfC "_law_heard" (defScope s_law_heard) s.heap.objs.size (He.ga K "_law_heard") cdv)
  refine ⟨t_law_heard K f c' q T', ?_, pu_law_heard T.ef f c' q T' H Q code h⟩
  exact (pss_cons (ps_par (i := 1) (j := 2) (by rfl) sc_law_heard.nd rfl rfl (by decide) rfl rfl (pa_cons pe_non (pa_cons (pe_lst pa_nil) pa_nil)) (by rfl))
    (pss_cons (ps_try_kept (i := 3) rfl rfl rfl sc_law_heard.nd rfl rfl (by exact ⟨rfl, by decide, .inl T.a_GiveError⟩) LamX.takes0 (fun W pn xe tk _ => (pss_one (ps_expr (act W pn xe _ _ tk)))) (fun a oe cls d pn _ _ => (pss_one (us_set 1 sc_law_heard.nd (uv 3)))))
    (pss_cons (ps_if (utc uo_is (uv 1) pe_non (nomark _)) (pss_one (ps_ret pe_non)) pss_nil)
    (pss_cons (ps_if (ut (pe_callB cu_isX rfl T.b_isinstance boot_isinstance (pa_cons (uv 1) (pa_cons (ug_ref T.a_BadDimension rfl) pa_nil)))) (pss_one (ps_expr (pe_bm PySem.F.plainAttrs_list PySem.F.slot_list_append PySem.F.type_list_append mt_append (uv 2) (pa_cons (pe_tup (pa_cons pe_str (pa_cons (ue_xf (uv 1)) pa_nil))) pa_nil)))) pss_nil)
    (pss_cons (ps_if (ut (pe_callB cu_isX rfl T.b_isinstance boot_isinstance (pa_cons (uv 1) (pa_cons (ug_ref T.a_BadNumber rfl) pa_nil)))) (pss_one (ps_expr (pe_bm PySem.F.plainAttrs_list PySem.F.slot_list_append PySem.F.type_list_append mt_append (uv 2) (pa_cons (pe_tup (pa_cons pe_str (pa_cons (ue_xf (uv 1)) pa_nil))) pa_nil)))) pss_nil)
    (pss_cons (ps_if (ut (pe_callB cu_isX rfl T.b_isinstance boot_isinstance (pa_cons (uv 1) (pa_cons (ug_ref T.a_BadPlacement rfl) pa_nil)))) (pss_one (ps_expr (pe_bm PySem.F.plainAttrs_list PySem.F.slot_list_append PySem.F.type_list_append mt_append (uv 2) (pa_cons (pe_tup (pa_cons pe_str (pa_cons (ue_xf (uv 1)) pa_nil))) pa_nil)))) pss_nil)
    (pss_cons (ps_if (ut (pe_callB cu_isX rfl T.b_isinstance boot_isinstance (pa_cons (uv 1) (pa_cons (ug_ref T.a_BadStructure rfl) pa_nil)))) (pss_one (ps_expr (pe_bm PySem.F.plainAttrs_list PySem.F.slot_list_append PySem.F.type_list_append mt_append (uv 2) (pa_cons (pe_tup (pa_cons pe_str (pa_cons (ue_xf (uv 1)) pa_nil))) pa_nil)))) pss_nil)
    (pss_cons (ps_if (ut (pe_callB cu_isX rfl T.b_isinstance boot_isinstance (pa_cons (uv 1) (pa_cons (ug_ref T.a_TooMany rfl) pa_nil)))) (pss_one (ps_expr (pe_bm PySem.F.plainAttrs_list PySem.F.slot_list_append PySem.F.type_list_append mt_append (uv 2) (pa_cons (pe_tup (pa_cons pe_str (pa_cons (ue_xf (uv 1)) (pa_cons (ue_xf (uv 1)) pa_nil)))) pa_nil)))) pss_nil)
    (pss_one (ps_ret (pe_ifExp (utc (uo_eq hr.units) (pe_callB cu_len rfl T.b_len (by decide +kernel) (pa_cons (uv 2) pa_nil)) pe_int (nomark _)) (pe_ix (ux (hu_of hr)) (uv 2) pe_int (fun _ _ => rfl)) (pe_tup (pa_cons pe_str pa_nil)))))))))))))
theorem fk_law_corners {P : Program} {w : World} {K : PySem.W.Frag} {mg : Str → Option Value} {base : Heap} (T : Top K mg)  {fd : FuncData} (F : FnP K "_law_corners" "_law_corners" s_law_corners (He.fAd K ("_law_corners", none)) fd) : FnOk P w K mg base CX0 1 (He.fAd K ("_law_corners", none)) fd ["dimension"] (sp_law_corners K) := by
  refine F.ok sc_law_corners ln_law_corners (fun cdv A outer s H vs Q E hr h => ⟨t_law_corners K, PSs.nox ?_, pu_law_corners vs H Q E h⟩)
  exact (pss_one (ps_ret (pe_op uo_add (pe_lst (pa_cons (pe_op uo_mulU (pe_tup (pa_cons pe_int pa_nil)) (uv 0)) pa_nil)) (pe_lc (own := [("at", 1)]) rfl sc_law_corners.nd (pi_range1 rfl T.b_range (pa_cons (uv 0) pa_nil)) (blkOk_by (own := [("at", 1)]) (by kernel_rfl)) (fun _ _ _ _ _ => (ugn 1 sc_law_corners.nd)) (fun _ _ _ _ _ => pts_nil) (fun _ _ _ _ _ => (pe_callTy cu_tup rfl T.b_tuple (by decide +kernel) (pa_cons (pe_lc (own := [("spot", 2)]) rfl sc_law_corners.nd (pi_range1 rfl T.b_range (pa_cons (uv 0) pa_nil)) (blkOk_by (own := [("spot", 2)]) (by kernel_rfl)) (fun _ _ _ _ _ => (ugn 2 sc_law_corners.nd)) (fun _ _ _ _ _ => pts_nil) (fun _ _ _ _ _ => (pe_callTy cu_int rfl T.b_int (by decide +kernel) (pa_cons (pe_cmpR (uo_eq hr.units) (uv 1) (uv 2) (nomark _)) pa_nil)))) pa_nil)))))))
theorem ok_law_corners {P : Program} {w : World} {K : PySem.W.Frag} {mg : Str → Option Value} {base : Heap} (T : Top K mg)  : ∃ fd, FnP K "_law_corners" "_law_corners" s_law_corners (He.fAd K ("_law_corners", none)) fd ∧ FnOk P w K mg base CX0 1 (He.fAd K ("_law_corners", none)) fd ["dimension"] (sp_law_corners K) :=
  let ⟨fd, F⟩ := T.d_law_corners
  ⟨fd, F, fk_law_corners T  F⟩
theorem cl_law_corners {P : Program} {w : World} {K : PySem.W.Frag} {mg : Str → Option Value} {base : Heap} (T : Top K mg) (h : ∃ fd, FnP K "_law_corners" "_law_corners" s_law_corners (He.fAd K ("_law_corners", none)) fd ∧ FnOk P w K mg base CX0 1 (He.fAd K ("_law_corners", none)) fd ["dimension"] (sp_law_corners K)) : Cal P w K mg base CX0 "_law_corners" 1 ["dimension"] (sp_law_corners K) := by
  obtain ⟨fd, F, h⟩ := h
  exact ⟨⟨fd, h, F.bindsN fun _ _ _ _ _ _ us hl => match us, hl with | [_], _ => rfl⟩, T.a_law_corners, F.kp⟩
theorem fk_is_within {P : Program} {w : World} {K : PySem.W.Frag} {mg : Str → Option Value} {base : Heap} (T : Top K mg) (g_is_integer : Cal P w K mg base CX0 "is_integer" 1 ["value"] (sp_is_integer K)) {fd : FuncData} (F : FnP K "is_within" "is_within" s_is_within (He.fAd K ("is_within", none)) fd) : FnOk P w K mg base CX0 2 (He.fAd K ("is_within", none)) fd ["value", "least", "most"] (sp_is_within K) := by
  refine F.ok sc_is_within ln_is_within (fun cdv A outer s H vs Q E hr h => ⟨t_is_within K, PSs.nox ?_, pu_is_within vs H Q E h⟩)
  exact (pss_one (ps_ret (ue_and (ucall g_is_integer (hr.mono (by decide)) rfl pass0 (pa_cons (uv 0) pa_nil)) (pe_one (ue_chain uo_le uo_le (uv 1) (uv 0) (uv 2))))))
theorem ok_is_within {P : Program} {w : World} {K : PySem.W.Frag} {mg : Str → Option Value} {base : Heap} (T : Top K mg) (g_is_integer : Cal P w K mg base CX0 "is_integer" 1 ["value"] (sp_is_integer K)) : ∃ fd, FnP K "is_within" "is_within" s_is_within (He.fAd K ("is_within", none)) fd ∧ FnOk P w K mg base CX0 2 (He.fAd K ("is_within", none)) fd ["value", "least", "most"] (sp_is_within K) :=
  let ⟨fd, F⟩ := T.d_is_within
  ⟨fd, F, fk_is_within T g_is_integer F⟩
theorem cl_is_within {P : Program} {w : World} {K : PySem.W.Frag} {mg : Str → Option Value} {base : Heap} (T : Top K mg) (h : ∃ fd, FnP K "is_within" "is_within" s_is_within (He.fAd K ("is_within", none)) fd ∧ FnOk P w K mg base CX0 2 (He.fAd K ("is_within", none)) fd ["value", "least", "most"] (sp_is_within K)) : Cal P w K mg base CX0 "is_within" 2 ["value", "least", "most"] (sp_is_within K) := by
  obtain ⟨fd, F, h⟩ := h
  exact ⟨⟨fd, h, F.bindsN fun _ _ _ _ _ _ us hl => match us, hl with | [_, _, _], _ => rfl⟩, T.a_is_within, F.kp⟩
theorem fk_edges_in {P : Program} {w : World} {K : PySem.W.Frag} {mg : Str → Option Value} {base : Heap} (T : Top K mg) (g_corners_in : Cal P w K mg base CX0 "corners_in" 1 ["dimension"] (sp_corners_in K)) {fd : FuncData} (F : FnP K "edges_in" "edges_in" s_edges_in (He.fAd K ("edges_in", none)) fd) : FnOk P w K mg base CX0 2 (He.fAd K ("edges_in", none)) fd ["dimension"] (sp_edges_in K) := by
  refine F.ok sc_edges_in ln_edges_in (fun cdv A outer s H vs Q E hr h => ⟨t_edges_in K, PSs.nox ?_, pu_edges_in T.ef vs H Q E h⟩)
  exact (pss_cons (us_set 1 sc_edges_in.nd (ucall g_corners_in (hr.mono (by decide)) rfl pass0 (pa_cons (uv 0) pa_nil)))
    (pss_one (ps_ret (pe_callTy cu_tup rfl T.b_tuple (by decide +kernel) (pa_cons (pe_lc (own := [("one", 2), ("other", 3)]) rfl sc_edges_in.nd (ui (pe_ix ux_I (ug_ref T.c_ENDS rfl) (uv 0) (fun _ _ => rfl))) (blkOk_by (own := [("one", 2), ("other", 3)]) (by kernel_rfl)) (fun _ _ _ _ _ => (pg_tup (by rfl) (pgs_cons (ugn 2 sc_edges_in.nd) (pgs_cons (ugn 3 sc_edges_in.nd) pgs_nil)))) (fun _ _ _ _ _ => pts_nil) (fun _ _ _ _ _ => (pe_tup (pa_cons (pe_ix (ux (hu_of hr)) (uv 1) (uv 2) (fun _ _ => rfl)) (pa_cons (pe_ix (ux (hu_of hr)) (uv 1) (uv 3) (fun _ _ => rfl)) pa_nil))))) pa_nil)))))
theorem ok_edges_in {P : Program} {w : World} {K : PySem.W.Frag} {mg : Str → Option Value} {base : Heap} (T : Top K mg) (g_corners_in : Cal P w K mg base CX0 "corners_in" 1 ["dimension"] (sp_corners_in K)) : ∃ fd, FnP K "edges_in" "edges_in" s_edges_in (He.fAd K ("edges_in", none)) fd ∧ FnOk P w K mg base CX0 2 (He.fAd K ("edges_in", none)) fd ["dimension"] (sp_edges_in K) :=
  let ⟨fd, F⟩ := T.d_edges_in
  ⟨fd, F, fk_edges_in T g_corners_in F⟩
theorem cl_edges_in {P : Program} {w : World} {K : PySem.W.Frag} {mg : Str → Option Value} {base : Heap} (T : Top K mg) (h : ∃ fd, FnP K "edges_in" "edges_in" s_edges_in (He.fAd K ("edges_in", none)) fd ∧ FnOk P w K mg base CX0 2 (He.fAd K ("edges_in", none)) fd ["dimension"] (sp_edges_in K)) : Cal P w K mg base CX0 "edges_in" 2 ["dimension"] (sp_edges_in K) := by
  obtain ⟨fd, F, h⟩ := h
  exact ⟨⟨fd, h, F.bindsN fun _ _ _ _ _ _ us hl => match us, hl with | [_], _ => rfl⟩, T.a_edges_in, F.kp⟩
theorem fk_law_pick {P : Program} {w : World} {K : PySem.W.Frag} {mg : Str → Option Value} {base : Heap} (T : Top K mg) (g_law_draw : Cal P w K mg base CX0 "_law_draw" 1 ["pen", "many"] (sp_law_draw K)) {fd : FuncData} (F : FnP K "_law_pick" "_law_pick" s_law_pick (He.fAd K ("_law_pick", none)) fd) : FnOk P w K mg base CX0 2 (He.fAd K ("_law_pick", none)) fd ["pen", "some"] (sp_law_pick K) := by
  refine F.ok sc_law_pick ln_law_pick (fun cdv A outer s H vs Q E hr h => ⟨t_law_pick K, PSs.nox ?_, pu_law_pick vs H Q E h⟩)
  exact (pss_one (ps_ret (pe_ix (ux (hu_of hr)) (uv 1) (ucall g_law_draw (hr.mono (by decide)) rfl pass0 (pa_cons (uv 0) (pa_cons (pe_callB cu_len rfl T.b_len (by decide +kernel) (pa_cons (uv 1) pa_nil)) pa_nil))) (fun _ _ => rfl))))
theorem ok_law_pick {P : Program} {w : World} {K : PySem.W.Frag} {mg : Str → Option Value} {base : Heap} (T : Top K mg) (g_law_draw : Cal P w K mg base CX0 "_law_draw" 1 ["pen", "many"] (sp_law_draw K)) : ∃ fd, FnP K "_law_pick" "_law_pick" s_law_pick (He.fAd K ("_law_pick", none)) fd ∧ FnOk P w K mg base CX0 2 (He.fAd K ("_law_pick", none)) fd ["pen", "some"] (sp_law_pick K) :=
  let ⟨fd, F⟩ := T.d_law_pick
  ⟨fd, F, fk_law_pick T g_law_draw F⟩
theorem cl_law_pick {P : Program} {w : World} {K : PySem.W.Frag} {mg : Str → Option Value} {base : Heap} (T : Top K mg) (h : ∃ fd, FnP K "_law_pick" "_law_pick" s_law_pick (He.fAd K ("_law_pick", none)) fd ∧ FnOk P w K mg base CX0 2 (He.fAd K ("_law_pick", none)) fd ["pen", "some"] (sp_law_pick K)) : Cal P w K mg base CX0 "_law_pick" 2 ["pen", "some"] (sp_law_pick K) := by
  obtain ⟨fd, F, h⟩ := h
  exact ⟨⟨fd, h, F.bindsN fun _ _ _ _ _ _ us hl => match us, hl with | [_, _], _ => rfl⟩, T.a_law_pick, F.kp⟩
theorem fk_law_asks {P : Program} {w : World} {K : PySem.W.Frag} {mg : Str → Option Value} {base : Heap} (T : Top K mg) (g_law_speed : Cal P w K mg base CX0 "_law_speed" 1 ["motion", "point"] (sp_law_speed K)) (g_law_units : Cal P w K mg base CX0 "_law_units" 1 ["width"] (sp_law_units K)) {fd : FuncData} (F : FnP K "_law_asks" "_law_asks" s_law_asks (He.fAd K ("_law_asks", none)) fd) : FnOk P w K mg base CX0 2 (He.fAd K ("_law_asks", none)) fd ["dimension", "kind", "spot"] (sp_law_asks K) := by
  refine F.ok sc_law_asks ln_law_asks (fun cdv A outer s H vs Q E hr h => ⟨t_law_asks K, PSs.nox ?_, pu_law_asks vs H Q E h⟩)
  exact (pss_cons (us_set 3 sc_law_asks.nd (ucall g_law_units (hr.mono (by decide)) rfl pass0 (pa_cons (pe_op uo_div (pe_op uo_mulU (uv 0) (pe_op uo_add (uv 0) pe_int)) pe_int) pa_nil)))
    (pss_cons (ps_if (utc (uo_eq hr.units) (uv 1) pe_str (nomark _)) (pss_one (ps_ret (uv 3))) pss_nil)
    (pss_cons (ps_if (utc (uo_eq hr.units) (uv 1) pe_str (nomark _)) (pss_cons (us_set 4 sc_law_asks.nd (pe_lc (own := [("at", 7)]) rfl sc_law_asks.nd (pi_range1 rfl T.b_range (pa_cons (uv 0) pa_nil)) (blkOk_by (own := [("at", 7)]) (by kernel_rfl)) (fun _ _ _ _ _ => (ugn 7 sc_law_asks.nd)) (fun _ _ _ _ _ => pts_nil) (fun _ _ _ _ _ => (pe_op uo_sub (pe_ix (ux (hu_of hr)) (pe_ix (ux (hu_of hr)) (uv 2) pe_int (fun _ _ => rfl)) (uv 7) (fun _ _ => rfl)) (pe_ix (ux (hu_of hr)) (pe_ix (ux (hu_of hr)) (uv 2) pe_int (fun _ _ => rfl)) (uv 7) (fun _ _ => rfl))))))
    (pss_one (ps_ret (pe_lst (pa_cons (pe_lc (own := [("unit", 8)]) rfl sc_law_asks.nd (ui (uv 3)) (blkOk_by (own := [("unit", 8)]) (by kernel_rfl)) (fun _ _ _ _ _ => (ugn 8 sc_law_asks.nd)) (fun _ _ _ _ _ => pts_nil) (fun _ _ _ _ _ => (pe_callB (cu_sum rfl) rfl T.b_sum (by decide +kernel) (pa_cons (pe_lc (own := [("at", 7)]) rfl sc_law_asks.nd (pi_range1 rfl T.b_range (pa_cons (uv 0) pa_nil)) (blkOk_by (own := [("at", 7)]) (by kernel_rfl)) (fun _ _ _ _ _ => (ugn 7 sc_law_asks.nd)) (fun _ _ _ _ _ => pts_nil) (fun _ _ _ _ _ => (pe_op uo_mulU (pe_ix (ux (hu_of hr)) (uv 4) (uv 7) (fun _ _ => rfl)) (pe_ix (ux (hu_of hr)) (ucall g_law_speed (hr.mono (by decide)) rfl pass0 (pa_cons (uv 8) (pa_cons (pe_ix (ux (hu_of hr)) (uv 2) pe_int (fun _ _ => rfl)) pa_nil))) (uv 7) (fun _ _ => rfl))))) pa_nil)))) pa_nil))))) pss_nil)
    (pss_cons (us_set 5 sc_law_asks.nd (pe_lst pa_nil))
    (pss_cons (ps_for PassesOwn.never rfl (ui (uv 2)) (ugn 6 sc_law_asks.nd) (pss_one (us_set 5 sc_law_asks.nd (pe_op uo_add (uv 5) (pe_lc (own := [("at", 7)]) rfl sc_law_asks.nd (pi_range1 rfl T.b_range (pa_cons (uv 0) pa_nil)) (blkOk_by (own := [("at", 7)]) (by kernel_rfl)) (fun _ _ _ _ _ => (ugn 7 sc_law_asks.nd)) (fun _ _ _ _ _ => pts_nil) (fun _ _ _ _ _ => (pe_lc (own := [("unit", 8)]) rfl sc_law_asks.nd (ui (uv 3)) (blkOk_by (own := [("unit", 8)]) (by kernel_rfl)) (fun _ _ _ _ _ => (ugn 8 sc_law_asks.nd)) (fun _ _ _ _ _ => pts_nil) (fun _ _ _ _ _ => (pe_ix (ux (hu_of hr)) (ucall g_law_speed (hr.mono (by decide)) rfl pass0 (pa_cons (uv 8) (pa_cons (uv 6) pa_nil))) (uv 7) (fun _ _ => rfl))))))))))
    (pss_one (ps_ret (uv 5))))))))
theorem ok_law_asks {P : Program} {w : World} {K : PySem.W.Frag} {mg : Str → Option Value} {base : Heap} (T : Top K mg) (g_law_speed : Cal P w K mg base CX0 "_law_speed" 1 ["motion", "point"] (sp_law_speed K)) (g_law_units : Cal P w K mg base CX0 "_law_units" 1 ["width"] (sp_law_units K)) : ∃ fd, FnP K "_law_asks" "_law_asks" s_law_asks (He.fAd K ("_law_asks", none)) fd ∧ FnOk P w K mg base CX0 2 (He.fAd K ("_law_asks", none)) fd ["dimension", "kind", "spot"] (sp_law_asks K) :=
  let ⟨fd, F⟩ := T.d_law_asks
  ⟨fd, F, fk_law_asks T g_law_speed g_law_units F⟩
theorem cl_law_asks {P : Program} {w : World} {K : PySem.W.Frag} {mg : Str → Option Value} {base : Heap} (T : Top K mg) (h : ∃ fd, FnP K "_law_asks" "_law_asks" s_law_asks (He.fAd K ("_law_asks", none)) fd ∧ FnOk P w K mg base CX0 2 (He.fAd K ("_law_asks", none)) fd ["dimension", "kind", "spot"] (sp_law_asks K)) : Cal P w K mg base CX0 "_law_asks" 2 ["dimension", "kind", "spot"] (sp_law_asks K) := by
  obtain ⟨fd, F, h⟩ := h
  exact ⟨⟨fd, h, F.bindsN fun _ _ _ _ _ _ us hl => match us, hl with | [_, _, _], _ => rfl⟩, T.a_law_asks, F.kp⟩
theorem fk_law_rank {P : Program} {w : World} {K : PySem.W.Frag} {mg : Str → Option Value} {base : Heap} (T : Top K mg) (g_law_pivots : Cal P w K mg base CX0 "_law_pivots" 1 ["rows", "width"] (sp_law_pivots K)) {fd : FuncData} (F : FnP K "_law_rank" "_law_rank" s_law_rank (He.fAd K ("_law_rank", none)) fd) : FnOk P w K mg base CX0 2 (He.fAd K ("_law_rank", none)) fd ["rows"] (sp_law_rank K) := by
  refine F.ok sc_law_rank ln_law_rank (fun cdv A outer s H vs Q E hr h => ⟨t_law_rank K, PSs.nox ?_, pu_law_rank vs H Q E h⟩)
  exact (pss_one (ps_ret (pe_ifExp (utc (uo_ne hr.units) (uv 0) (pe_lst pa_nil) (nomark _)) (pe_callB cu_len rfl T.b_len (by decide +kernel) (pa_cons (ucall g_law_pivots (hr.mono (by decide)) rfl pass0 (pa_cons (uv 0) (pa_cons (pe_callB cu_len rfl T.b_len (by decide +kernel) (pa_cons (pe_ix (ux (hu_of hr)) (uv 0) pe_int (fun _ _ => rfl)) pa_nil)) pa_nil))) pa_nil)) pe_int)))
theorem ok_law_rank {P : Program} {w : World} {K : PySem.W.Frag} {mg : Str → Option Value} {base : Heap} (T : Top K mg) (g_law_pivots : Cal P w K mg base CX0 "_law_pivots" 1 ["rows", "width"] (sp_law_pivots K)) : ∃ fd, FnP K "_law_rank" "_law_rank" s_law_rank (He.fAd K ("_law_rank", none)) fd ∧ FnOk P w K mg base CX0 2 (He.fAd K ("_law_rank", none)) fd ["rows"] (sp_law_rank K) :=
  let ⟨fd, F⟩ := T.d_law_rank
  ⟨fd, F, fk_law_rank T g_law_pivots F⟩
theorem cl_law_rank {P : Program} {w : World} {K : PySem.W.Frag} {mg : Str → Option Value} {base : Heap} (T : Top K mg) (h : ∃ fd, FnP K "_law_rank" "_law_rank" s_law_rank (He.fAd K ("_law_rank", none)) fd ∧ FnOk P w K mg base CX0 2 (He.fAd K ("_law_rank", none)) fd ["rows"] (sp_law_rank K)) : Cal P w K mg base CX0 "_law_rank" 2 ["rows"] (sp_law_rank K) := by
  obtain ⟨fd, F, h⟩ := h
  exact ⟨⟨fd, h, F.bindsN fun _ _ _ _ _ _ us hl => match us, hl with | [_], _ => rfl⟩, T.a_law_rank, F.kp⟩
theorem fk_law_edges {P : Program} {w : World} {K : PySem.W.Frag} {mg : Str → Option Value} {base : Heap} (T : Top K mg) (g_law_corners : Cal P w K mg base CX0 "_law_corners" 1 ["dimension"] (sp_law_corners K)) {fd : FuncData} (F : FnP K "_law_edges" "_law_edges" s_law_edges (He.fAd K ("_law_edges", none)) fd) : FnOk P w K mg base CX0 2 (He.fAd K ("_law_edges", none)) fd ["dimension"] (sp_law_edges K) := by
  refine F.ok sc_law_edges ln_law_edges (fun cdv A outer s H vs Q E hr h => ⟨t_law_edges K, PSs.nox ?_, pu_law_edges vs H Q E h⟩)
  exact (pss_cons (us_set 1 sc_law_edges.nd (pe_ix (ux (hu_of hr)) (pe_lst (pa_cons (pe_lst (pa_cons (pe_tup (pa_cons pe_int (pa_cons pe_int pa_nil))) pa_nil)) (pa_cons (pe_lst (pa_cons (pe_tup (pa_cons pe_int (pa_cons pe_int pa_nil))) (pa_cons (pe_tup (pa_cons pe_int (pa_cons pe_int pa_nil))) (pa_cons (pe_tup (pa_cons pe_int (pa_cons pe_int pa_nil))) pa_nil)))) (pa_cons (pe_lst (pa_cons (pe_tup (pa_cons pe_int (pa_cons pe_int pa_nil))) (pa_cons (pe_tup (pa_cons pe_int (pa_cons pe_int pa_nil))) (pa_cons (pe_tup (pa_cons pe_int (pa_cons pe_int pa_nil))) (pa_cons (pe_tup (pa_cons pe_int (pa_cons pe_int pa_nil))) (pa_cons (pe_tup (pa_cons pe_int (pa_cons pe_int pa_nil))) (pa_cons (pe_tup (pa_cons pe_int (pa_cons pe_int pa_nil))) pa_nil))))))) pa_nil)))) (pe_op uo_sub (uv 0) pe_int) (fun _ _ => rfl)))
    (pss_cons (us_set 2 sc_law_edges.nd (ucall g_law_corners (hr.mono (by decide)) rfl pass0 (pa_cons (uv 0) pa_nil)))
    (pss_one (ps_ret (pe_lc (own := [("one", 3), ("other", 4)]) rfl sc_law_edges.nd (ui (uv 1)) (blkOk_by (own := [("one", 3), ("other", 4)]) (by kernel_rfl)) (fun _ _ _ _ _ => (pg_tup (by rfl) (pgs_cons (ugn 3 sc_law_edges.nd) (pgs_cons (ugn 4 sc_law_edges.nd) pgs_nil)))) (fun _ _ _ _ _ => pts_nil) (fun _ _ _ _ _ => (pe_tup (pa_cons (pe_ix (ux (hu_of hr)) (uv 2) (uv 3) (fun _ _ => rfl)) (pa_cons (pe_ix (ux (hu_of hr)) (uv 2) (uv 4) (fun _ _ => rfl)) pa_nil)))))))))
theorem ok_law_edges {P : Program} {w : World} {K : PySem.W.Frag} {mg : Str → Option Value} {base : Heap} (T : Top K mg) (g_law_corners : Cal P w K mg base CX0 "_law_corners" 1 ["dimension"] (sp_law_corners K)) : ∃ fd, FnP K "_law_edges" "_law_edges" s_law_edges (He.fAd K ("_law_edges", none)) fd ∧ FnOk P w K mg base CX0 2 (He.fAd K ("_law_edges", none)) fd ["dimension"] (sp_law_edges K) :=
  let ⟨fd, F⟩ := T.d_law_edges
  ⟨fd, F, fk_law_edges T g_law_corners F⟩
theorem cl_law_edges {P : Program} {w : World} {K : PySem.W.Frag} {mg : Str → Option Value} {base : Heap} (T : Top K mg) (h : ∃ fd, FnP K "_law_edges" "_law_edges" s_law_edges (He.fAd K ("_law_edges", none)) fd ∧ FnOk P w K mg base CX0 2 (He.fAd K ("_law_edges", none)) fd ["dimension"] (sp_law_edges K)) : Cal P w K mg base CX0 "_law_edges" 2 ["dimension"] (sp_law_edges K) := by
  obtain ⟨fd, F, h⟩ := h
  exact ⟨⟨fd, h, F.bindsN fun _ _ _ _ _ _ us hl => match us, hl with | [_], _ => rfl⟩, T.a_law_edges, F.kp⟩
theorem fk_need_dimension {P : Program} {w : World} {K : PySem.W.Frag} {mg : Str → Option Value} {base : Heap} (T : Top K mg) (g_is_within : Cal P w K mg base CX0 "is_within" 2 ["value", "least", "most"] (sp_is_within K)) (e_BadDimension : CalE P w K mg base "BadDimension" 1 ["self", "value"] ["value"]) {fd : FuncData} (F : FnP K "need_dimension" "need_dimension" s_need_dimension (He.fAd K ("need_dimension", none)) fd) : FnOk P w K mg base (L2.CX P w) 3 (He.fAd K ("need_dimension", none)) fd ["value"] (sp_need_dimension K) := by
  refine F.ok sc_need_dimension ln_need_dimension (fun cdv A outer s H vs Q E hr h => ⟨t_need_dimension K E, ?_, pu_need_dimension vs H Q E h⟩)
  exact (pss_one (ps_if (pt_not (ut (ucall g_is_within (hr.mono (by decide)) rfl pass0 (pa_cons (uv 0) (pa_cons pe_int (pa_cons (ug_int T.c_MOST_DIMENSION rfl) pa_nil)))))) (pss_one (ue_raise e_BadDimension (by decide) (hr.mono (by decide)) rfl (takes_of rfl rfl rfl rfl) rfl (pa_cons (uv 0) pa_nil))) pss_nil))
theorem ok_need_dimension {P : Program} {w : World} {K : PySem.W.Frag} {mg : Str → Option Value} {base : Heap} (T : Top K mg) (g_is_within : Cal P w K mg base CX0 "is_within" 2 ["value", "least", "most"] (sp_is_within K)) (e_BadDimension : CalE P w K mg base "BadDimension" 1 ["self", "value"] ["value"]) : ∃ fd, FnP K "need_dimension" "need_dimension" s_need_dimension (He.fAd K ("need_dimension", none)) fd ∧ FnOk P w K mg base (L2.CX P w) 3 (He.fAd K ("need_dimension", none)) fd ["value"] (sp_need_dimension K) :=
  let ⟨fd, F⟩ := T.d_need_dimension
  ⟨fd, F, fk_need_dimension T g_is_within e_BadDimension F⟩
theorem cl_need_dimension {P : Program} {w : World} {K : PySem.W.Frag} {mg : Str → Option Value} {base : Heap} (T : Top K mg) (h : ∃ fd, FnP K "need_dimension" "need_dimension" s_need_dimension (He.fAd K ("need_dimension", none)) fd ∧ FnOk P w K mg base (L2.CX P w) 3 (He.fAd K ("need_dimension", none)) fd ["value"] (sp_need_dimension K)) : Cal P w K mg base (L2.CX P w) "need_dimension" 3 ["value"] (sp_need_dimension K) := by
  obtain ⟨fd, F, h⟩ := h
  exact ⟨⟨fd, h, F.bindsN fun _ _ _ _ _ _ us hl => match us, hl with | [_], _ => rfl⟩, T.a_need_dimension, F.kp⟩
theorem fk_opposite_in {P : Program} {w : World} {K : PySem.W.Frag} {mg : Str → Option Value} {base : Heap} (T : Top K mg) (g_corners_in : Cal P w K mg base CX0 "corners_in" 1 ["dimension"] (sp_corners_in K)) (g_edges_in : Cal P w K mg base CX0 "edges_in" 2 ["dimension"] (sp_edges_in K)) {fd : FuncData} (F : FnP K "opposite_in" "opposite_in" s_opposite_in (He.fAd K ("opposite_in", none)) fd) : FnOk P w K mg base CX0 3 (He.fAd K ("opposite_in", none)) fd ["dimension", "at"] (sp_opposite_in K) := by
  refine F.ok sc_opposite_in ln_opposite_in (fun cdv A outer s H vs Q E hr h => ⟨t_opposite_in K, PSs.nox ?_, pu_opposite_in vs H Q E h⟩)
  exact (pss_cons (us_set 2 sc_opposite_in.nd (ucall g_edges_in (hr.mono (by decide)) rfl pass0 (pa_cons (uv 0) pa_nil)))
    (pss_cons (ps_if (utc (uo_eq hr.units) (uv 0) pe_int (nomark _)) (pss_one (ps_ret (pe_ix (ux (hu_of hr)) (pe_lc (own := [("edge", 3)]) rfl sc_opposite_in.nd (ui (uv 2)) (blkOk_by (own := [("edge", 3)]) (by kernel_rfl)) (fun _ _ _ _ _ => (ugn 3 sc_opposite_in.nd)) (fun _ _ _ _ _ => (pts_one (PW.pt (pw_and (utc (uo_ninU (hu65 hr)) (pe_ix (ux (hu_of hr)) (uv 3) pe_int (fun _ _ => rfl)) (pe_ix (ux (hu_of hr)) (uv 2) (uv 1) (fun _ _ => rfl)) (by with_unfolding_all rfl)) (pw_and1 (utc (uo_ninU (hu65 hr)) (pe_ix (ux (hu_of hr)) (uv 3) pe_int (fun _ _ => rfl)) (pe_ix (ux (hu_of hr)) (uv 2) (uv 1) (fun _ _ => rfl)) (by with_unfolding_all rfl))))))) (fun _ _ _ _ _ => (uv 3))) pe_int (fun _ _ => rfl)))) pss_nil)
    (pss_one (ps_ret (pe_callTy cu_tup rfl T.b_tuple (by decide +kernel) (pa_cons (pe_lc (own := [("corner", 4)]) rfl sc_opposite_in.nd (ui (ucall g_corners_in (hr.mono (by decide)) rfl pass0 (pa_cons (uv 0) pa_nil))) (blkOk_by (own := [("corner", 4)]) (by kernel_rfl)) (fun _ _ _ _ _ => (ugn 4 sc_opposite_in.nd)) (fun _ _ _ _ _ => (pts_one (utc (uo_ninU (hu65 hr)) (uv 4) (pe_ix (ux (hu_of hr)) (uv 2) (uv 1) (fun _ _ => rfl)) (by with_unfolding_all rfl)))) (fun _ _ _ _ _ => (uv 4))) pa_nil))))))
theorem ok_opposite_in {P : Program} {w : World} {K : PySem.W.Frag} {mg : Str → Option Value} {base : Heap} (T : Top K mg) (g_corners_in : Cal P w K mg base CX0 "corners_in" 1 ["dimension"] (sp_corners_in K)) (g_edges_in : Cal P w K mg base CX0 "edges_in" 2 ["dimension"] (sp_edges_in K)) : ∃ fd, FnP K "opposite_in" "opposite_in" s_opposite_in (He.fAd K ("opposite_in", none)) fd ∧ FnOk P w K mg base CX0 3 (He.fAd K ("opposite_in", none)) fd ["dimension", "at"] (sp_opposite_in K) :=
  let ⟨fd, F⟩ := T.d_opposite_in
  ⟨fd, F, fk_opposite_in T g_corners_in g_edges_in F⟩
theorem cl_opposite_in {P : Program} {w : World} {K : PySem.W.Frag} {mg : Str → Option Value} {base : Heap} (T : Top K mg) (h : ∃ fd, FnP K "opposite_in" "opposite_in" s_opposite_in (He.fAd K ("opposite_in", none)) fd ∧ FnOk P w K mg base CX0 3 (He.fAd K ("opposite_in", none)) fd ["dimension", "at"] (sp_opposite_in K)) : Cal P w K mg base CX0 "opposite_in" 3 ["dimension", "at"] (sp_opposite_in K) := by
  obtain ⟨fd, F, h⟩ := h
  exact ⟨⟨fd, h, F.bindsN fun _ _ _ _ _ _ us hl => match us, hl with | [_, _], _ => rfl⟩, T.a_opposite_in, F.kp⟩
theorem fk_law_opposite {P : Program} {w : World} {K : PySem.W.Frag} {mg : Str → Option Value} {base : Heap} (T : Top K mg) (g_law_edges : Cal P w K mg base CX0 "_law_edges" 2 ["dimension"] (sp_law_edges K)) {fd : FuncData} (F : FnP K "_law_opposite" "_law_opposite" s_law_opposite (He.fAd K ("_law_opposite", none)) fd) : FnOk P w K mg base CX0 3 (He.fAd K ("_law_opposite", none)) fd ["dimension", "at"] (sp_law_opposite K) := by
  refine F.ok sc_law_opposite ln_law_opposite (fun cdv A outer s H vs Q E hr h => ⟨t_law_opposite K, PSs.nox ?_, pu_law_opposite vs H Q E h⟩)
  exact (pss_cons (ps_if (utc (uo_eq hr.units) (uv 0) pe_int (nomark _)) (pss_one (ps_ret (pe_ix (ux (hu_of hr)) (ucall g_law_edges (hr.mono (by decide)) rfl pass0 (pa_cons pe_int pa_nil)) (pe_ix (ux (hu_of hr)) (pe_lst (pa_cons pe_int (pa_cons pe_int (pa_cons pe_int (pa_cons pe_int (pa_cons pe_int (pa_cons pe_int pa_nil))))))) (uv 1) (fun _ _ => rfl)) (fun _ _ => rfl)))) pss_nil)
    (pss_one (ps_ret (pe_ix (ux (hu_of hr)) (pe_lst (pa_cons (pe_tup pa_nil) (pa_cons (pe_slice us (pe_tup (pa_cons (pe_tup (pa_cons pe_int (pa_cons pe_int pa_nil))) (pa_cons (pe_tup (pa_cons pe_int (pa_cons pe_int pa_nil))) (pa_cons (pe_tup (pa_cons pe_int (pa_cons pe_int pa_nil))) pa_nil)))) (upo (uv 1)) (upo (pe_op uo_add (uv 1) pe_int))) pa_nil))) (pe_op uo_sub (uv 0) pe_int) (fun _ _ => rfl)))))
theorem ok_law_opposite {P : Program} {w : World} {K : PySem.W.Frag} {mg : Str → Option Value} {base : Heap} (T : Top K mg) (g_law_edges : Cal P w K mg base CX0 "_law_edges" 2 ["dimension"] (sp_law_edges K)) : ∃ fd, FnP K "_law_opposite" "_law_opposite" s_law_opposite (He.fAd K ("_law_opposite", none)) fd ∧ FnOk P w K mg base CX0 3 (He.fAd K ("_law_opposite", none)) fd ["dimension", "at"] (sp_law_opposite K) :=
  let ⟨fd, F⟩ := T.d_law_opposite
  ⟨fd, F, fk_law_opposite T g_law_edges F⟩
theorem cl_law_opposite {P : Program} {w : World} {K : PySem.W.Frag} {mg : Str → Option Value} {base : Heap} (T : Top K mg) (h : ∃ fd, FnP K "_law_opposite" "_law_opposite" s_law_opposite (He.fAd K ("_law_opposite", none)) fd ∧ FnOk P w K mg base CX0 3 (He.fAd K ("_law_opposite", none)) fd ["dimension", "at"] (sp_law_opposite K)) : Cal P w K mg base CX0 "_law_opposite" 3 ["dimension", "at"] (sp_law_opposite K) := by
  obtain ⟨fd, F, h⟩ := h
  exact ⟨⟨fd, h, F.bindsN fun _ _ _ _ _ _ us hl => match us, hl with | [_, _], _ => rfl⟩, T.a_law_opposite, F.kp⟩
theorem fk_corners {P : Program} {w : World} {K : PySem.W.Frag} {mg : Str → Option Value} {base : Heap} (T : Top K mg) (g_corners_in : Cal P w K mg base CX0 "corners_in" 1 ["dimension"] (sp_corners_in K)) (g_need_dimension : Cal P w K mg base (L2.CX P w) "need_dimension" 3 ["value"] (sp_need_dimension K)) {fd : FuncData} (F : FnP K "corners" "corners" s_corners (He.fAd K ("corners", none)) fd) : FnOk P w K mg base (L2.CX P w) 4 (He.fAd K ("corners", none)) fd ["dimension"] (sp_corners K) := by
  refine F.ok sc_corners ln_corners (fun cdv A outer s H vs Q E hr h => ⟨t_corners K E, ?_, pu_corners vs H Q E h⟩)
  exact (pss_cons (ps_expr (ucall g_need_dimension (hr.mono (by decide)) rfl (passes_call (takes_of rfl rfl rfl rfl) (fun _ _ _ _ h => h)) (pa_cons (uv 0) pa_nil)))
    (pss_one (ps_ret (ucall g_corners_in (hr.mono (by decide)) rfl pass0 (pa_cons (uv 0) pa_nil)))))
theorem ok_corners {P : Program} {w : World} {K : PySem.W.Frag} {mg : Str → Option Value} {base : Heap} (T : Top K mg) (g_corners_in : Cal P w K mg base CX0 "corners_in" 1 ["dimension"] (sp_corners_in K)) (g_need_dimension : Cal P w K mg base (L2.CX P w) "need_dimension" 3 ["value"] (sp_need_dimension K)) : ∃ fd, FnP K "corners" "corners" s_corners (He.fAd K ("corners", none)) fd ∧ FnOk P w K mg base (L2.CX P w) 4 (He.fAd K ("corners", none)) fd ["dimension"] (sp_corners K) :=
  let ⟨fd, F⟩ := T.d_corners
  ⟨fd, F, fk_corners T g_corners_in g_need_dimension F⟩
theorem cl_corners {P : Program} {w : World} {K : PySem.W.Frag} {mg : Str → Option Value} {base : Heap} (T : Top K mg) (h : ∃ fd, FnP K "corners" "corners" s_corners (He.fAd K ("corners", none)) fd ∧ FnOk P w K mg base (L2.CX P w) 4 (He.fAd K ("corners", none)) fd ["dimension"] (sp_corners K)) : Cal P w K mg base (L2.CX P w) "corners" 4 ["dimension"] (sp_corners K) := by
  obtain ⟨fd, F, h⟩ := h
  exact ⟨⟨fd, h, F.bindsN fun _ _ _ _ _ _ us hl => match us, hl with | [_], _ => rfl⟩, T.a_corners, F.kp⟩
theorem fk_edges {P : Program} {w : World} {K : PySem.W.Frag} {mg : Str → Option Value} {base : Heap} (T : Top K mg) (g_edges_in : Cal P w K mg base CX0 "edges_in" 2 ["dimension"] (sp_edges_in K)) (g_need_dimension : Cal P w K mg base (L2.CX P w) "need_dimension" 3 ["value"] (sp_need_dimension K)) {fd : FuncData} (F : FnP K "edges" "edges" s_edges (He.fAd K ("edges", none)) fd) : FnOk P w K mg base (L2.CX P w) 4 (He.fAd K ("edges", none)) fd ["dimension"] (sp_edges K) := by
  refine F.ok sc_edges ln_edges (fun cdv A outer s H vs Q E hr h => ⟨t_edges K E, ?_, pu_edges vs H Q E h⟩)
  exact (pss_cons (ps_expr (ucall g_need_dimension (hr.mono (by decide)) rfl (passes_call (takes_of rfl rfl rfl rfl) (fun _ _ _ _ h => h)) (pa_cons (uv 0) pa_nil)))
    (pss_one (ps_ret (ucall g_edges_in (hr.mono (by decide)) rfl pass0 (pa_cons (uv 0) pa_nil)))))
theorem ok_edges {P : Program} {w : World} {K : PySem.W.Frag} {mg : Str → Option Value} {base : Heap} (T : Top K mg) (g_edges_in : Cal P w K mg base CX0 "edges_in" 2 ["dimension"] (sp_edges_in K)) (g_need_dimension : Cal P w K mg base (L2.CX P w) "need_dimension" 3 ["value"] (sp_need_dimension K)) : ∃ fd, FnP K "edges" "edges" s_edges (He.fAd K ("edges", none)) fd ∧ FnOk P w K mg base (L2.CX P w) 4 (He.fAd K ("edges", none)) fd ["dimension"] (sp_edges K) :=
  let ⟨fd, F⟩ := T.d_edges
  ⟨fd, F, fk_edges T g_edges_in g_need_dimension F⟩
theorem cl_edges {P : Program} {w : World} {K : PySem.W.Frag} {mg : Str → Option Value} {base : Heap} (T : Top K mg) (h : ∃ fd, FnP K "edges" "edges" s_edges (He.fAd K ("edges", none)) fd ∧ FnOk P w K mg base (L2.CX P w) 4 (He.fAd K ("edges", none)) fd ["dimension"] (sp_edges K)) : Cal P w K mg base (L2.CX P w) "edges" 4 ["dimension"] (sp_edges K) := by
  obtain ⟨fd, F, h⟩ := h
  exact ⟨⟨fd, h, F.bindsN fun _ _ _ _ _ _ us hl => match us, hl with | [_], _ => rfl⟩, T.a_edges, F.kp⟩
theorem fk_opposite {P : Program} {w : World} {K : PySem.W.Frag} {mg : Str → Option Value} {base : Heap} (T : Top K mg) (g_is_within : Cal P w K mg base CX0 "is_within" 2 ["value", "least", "most"] (sp_is_within K)) (g_need_dimension : Cal P w K mg base (L2.CX P w) "need_dimension" 3 ["value"] (sp_need_dimension K)) (g_opposite_in : Cal P w K mg base CX0 "opposite_in" 3 ["dimension", "at"] (sp_opposite_in K)) (g_width_of : Cal P w K mg base CX0 "width_of" 1 ["dimension"] (sp_width_of K)) (e_BadNumber : CalE P w K mg base "BadNumber" 1 ["self", "part"] ["part"]) {fd : FuncData} (F : FnP K "opposite" "opposite" s_opposite (He.fAd K ("opposite", none)) fd) : FnOk P w K mg base (L2.CX P w) 4 (He.fAd K ("opposite", none)) fd ["dimension", "at"] (sp_opposite K) := by
  refine F.ok sc_opposite ln_opposite (fun cdv A outer s H vs Q E hr h => ⟨t_opposite K E, ?_, pu_opposite vs H Q E h⟩)
  exact (pss_cons (ps_expr (ucall g_need_dimension (hr.mono (by decide)) rfl (passes_call (takes_of rfl rfl rfl rfl) (fun _ _ _ _ h => h)) (pa_cons (uv 0) pa_nil)))
    (pss_cons (ps_if (pt_not (ut (ucall g_is_within (hr.mono (by decide)) rfl pass0 (pa_cons (uv 1) (pa_cons pe_int (pa_cons (pe_op uo_sub (ucall g_width_of (hr.mono (by decide)) rfl pass0 (pa_cons (uv 0) pa_nil)) pe_int) pa_nil)))))) (pss_one (ue_raise e_BadNumber (by decide) (hr.mono (by decide)) rfl (takes_of rfl rfl rfl rfl) rfl (pa_cons pe_str pa_nil))) pss_nil)
    (pss_one (ps_ret (ucall g_opposite_in (hr.mono (by decide)) rfl pass0 (pa_cons (uv 0) (pa_cons (uv 1) pa_nil)))))))
theorem ok_opposite {P : Program} {w : World} {K : PySem.W.Frag} {mg : Str → Option Value} {base : Heap} (T : Top K mg) (g_is_within : Cal P w K mg base CX0 "is_within" 2 ["value", "least", "most"] (sp_is_within K)) (g_need_dimension : Cal P w K mg base (L2.CX P w) "need_dimension" 3 ["value"] (sp_need_dimension K)) (g_opposite_in : Cal P w K mg base CX0 "opposite_in" 3 ["dimension", "at"] (sp_opposite_in K)) (g_width_of : Cal P w K mg base CX0 "width_of" 1 ["dimension"] (sp_width_of K)) (e_BadNumber : CalE P w K mg base "BadNumber" 1 ["self", "part"] ["part"]) : ∃ fd, FnP K "opposite" "opposite" s_opposite (He.fAd K ("opposite", none)) fd ∧ FnOk P w K mg base (L2.CX P w) 4 (He.fAd K ("opposite", none)) fd ["dimension", "at"] (sp_opposite K) :=
  let ⟨fd, F⟩ := T.d_opposite
  ⟨fd, F, fk_opposite T g_is_within g_need_dimension g_opposite_in g_width_of e_BadNumber F⟩
theorem cl_opposite {P : Program} {w : World} {K : PySem.W.Frag} {mg : Str → Option Value} {base : Heap} (T : Top K mg) (h : ∃ fd, FnP K "opposite" "opposite" s_opposite (He.fAd K ("opposite", none)) fd ∧ FnOk P w K mg base (L2.CX P w) 4 (He.fAd K ("opposite", none)) fd ["dimension", "at"] (sp_opposite K)) : Cal P w K mg base (L2.CX P w) "opposite" 4 ["dimension", "at"] (sp_opposite K) := by
  obtain ⟨fd, F, h⟩ := h
  exact ⟨⟨fd, h, F.bindsN fun _ _ _ _ _ _ us hl => match us, hl with | [_, _], _ => rfl⟩, T.a_opposite, F.kp⟩
theorem fr_law_same {P : Program} {w : World} {K : PySem.W.Frag} {mg : Str → Option Value} {base : Heap} (T : Top K mg)  {fd : FuncData} (F : FnP K "_law_same" "_law_same" s_law_same (He.fAd K ("_law_same", none)) fd) : ∀ n, FnOk P w K mg base CX0 (0 + n) (He.fAd K ("_law_same", none)) fd ["value", "due"] (sp_law_same K n)
  | 0 => ⟨fun _ _ _ _ h => h.elim, fun _ _ _ _ _ _ _ _ _ _ _ _ _ h => h.elim⟩
  | n + 1 => by
    have g_law_same : Cal P w K mg base CX0 "_law_same" (0 + n) ["value", "due"] (sp_law_same K n) := ⟨⟨fd, fr_law_same T  F n, F.bindsN fun _ _ _ _ _ _ us hl => match us, hl with | [_, _], _ => rfl⟩, T.a_law_same, F.kp⟩
    refine F.ok (k := 0 + n) sc_law_same (ln_law_same (n + 1)) (fun cdv A outer s H vs Q E hr h => ⟨t_law_same K n, PSs.nox ?_, pu_law_same n vs H Q E h⟩)
    exact (pss_cons (ps_if (ut (pe_callB (call_is1 .int) rfl T.b_isinstance boot_isinstance (pa_cons (uv 1) (pa_cons (pe_bltn rfl T.b_int (by decide +kernel) rfl) pa_nil)))) (pss_one (ps_ret (ue_and (pe_callB (call_is1 .int) rfl T.b_isinstance boot_isinstance (pa_cons (uv 0) (pa_cons (pe_bltn rfl T.b_int (by decide +kernel) rfl) pa_nil))) (ue_and (ue_not (pe_callB (call_is1 .bl) rfl T.b_isinstance boot_isinstance (pa_cons (uv 0) (pa_cons (pe_bltn rfl T.b_bool (by decide +kernel) rfl) pa_nil)))) (pe_one (pe_cmpR (uo_eq hr.units) (uv 0) (uv 1) (nomark _))))))) pss_nil)
    (pss_cons (ps_if (PW.pt (pw_or (pt_not (ut (pe_callB (call_is1 .tup) rfl T.b_isinstance boot_isinstance (pa_cons (uv 0) (pa_cons (pe_bltn rfl T.b_tuple (by decide +kernel) rfl) pa_nil))))) (pw_or1 (utc (uo_ne hr.units) (pe_callB cu_len rfl T.b_len (by decide +kernel) (pa_cons (uv 0) pa_nil)) (pe_callB cu_len rfl T.b_len (by decide +kernel) (pa_cons (uv 1) pa_nil)) (nomark _))))) (pss_one (ps_ret pe_bl)) pss_nil)
    (pss_one (ps_ret (pe_callB (cu_all rfl) rfl T.b_all (by decide +kernel) (pa_cons (pe_lc (own := [("at", 2)]) rfl sc_law_same.nd (pi_range1 rfl T.b_range (pa_cons (pe_callB cu_len rfl T.b_len (by decide +kernel) (pa_cons (uv 1) pa_nil)) pa_nil)) (blkOk_by (own := [("at", 2)]) (by kernel_rfl)) (fun _ _ _ _ _ => (ugn 2 sc_law_same.nd)) (fun _ _ _ _ _ => pts_nil) (fun _ _ _ _ _ => (ucall g_law_same (hr.mono (by omega)) rfl pass0 (pa_cons (pe_ix (ux (hu_of hr)) (uv 0) (uv 2) (fun _ _ => rfl)) (pa_cons (pe_ix (ux (hu_of hr)) (uv 1) (uv 2) (fun _ _ => rfl)) pa_nil))))) pa_nil))))))
theorem fk_law_same {P : Program} {w : World} {K : PySem.W.Frag} {mg : Str → Option Value} {base : Heap} (T : Top K mg)  {fd : FuncData} (F : FnP K "_law_same" "_law_same" s_law_same (He.fAd K ("_law_same", none)) fd) : FnOk P w K mg base CX0 4 (He.fAd K ("_law_same", none)) fd ["value", "due"] (sp_law_same K 4) := fr_law_same T  F 4
theorem ok_law_same {P : Program} {w : World} {K : PySem.W.Frag} {mg : Str → Option Value} {base : Heap} (T : Top K mg)  : ∃ fd, FnP K "_law_same" "_law_same" s_law_same (He.fAd K ("_law_same", none)) fd ∧ FnOk P w K mg base CX0 4 (He.fAd K ("_law_same", none)) fd ["value", "due"] (sp_law_same K 4) :=
  let ⟨fd, F⟩ := T.d_law_same
  ⟨fd, F, fk_law_same T  F⟩
theorem cl_law_same {P : Program} {w : World} {K : PySem.W.Frag} {mg : Str → Option Value} {base : Heap} (T : Top K mg) (h : ∃ fd, FnP K "_law_same" "_law_same" s_law_same (He.fAd K ("_law_same", none)) fd ∧ FnOk P w K mg base CX0 4 (He.fAd K ("_law_same", none)) fd ["value", "due"] (sp_law_same K 4)) : Cal P w K mg base CX0 "_law_same" 4 ["value", "due"] (sp_law_same K 4) := by
  obtain ⟨fd, F, h⟩ := h
  exact ⟨⟨fd, h, F.bindsN fun _ _ _ _ _ _ us hl => match us, hl with | [_, _], _ => rfl⟩, T.a_law_same, F.kp⟩
theorem fk_law_right {P : Program} {w : World} {K : PySem.W.Frag} {mg : Str → Option Value} {base : Heap} (T : Top K mg) (g_law_asks : Cal P w K mg base CX0 "_law_asks" 2 ["dimension", "kind", "spot"] (sp_law_asks K)) (g_law_corners : Cal P w K mg base CX0 "_law_corners" 1 ["dimension"] (sp_law_corners K)) (g_law_edges : Cal P w K mg base CX0 "_law_edges" 2 ["dimension"] (sp_law_edges K)) (g_law_opposite : Cal P w K mg base CX0 "_law_opposite" 3 ["dimension", "at"] (sp_law_opposite K)) (g_law_rank : Cal P w K mg base CX0 "_law_rank" 2 ["rows"] (sp_law_rank K)) (g_law_same : Cal P w K mg base CX0 "_law_same" 4 ["value", "due"] (sp_law_same K 4)) (g_corners : Cal P w K mg base (L2.CX P w) "corners" 4 ["dimension"] (sp_corners K)) (g_edges : Cal P w K mg base (L2.CX P w) "edges" 4 ["dimension"] (sp_edges K)) (g_opposite : Cal P w K mg base (L2.CX P w) "opposite" 4 ["dimension", "at"] (sp_opposite K)) (k_corners_dimension : CalK P w K mg base (L2.CX P w) "corners" 4 ["dimension"] ["dimension"] [0] (sp_corners K)) (k_edges_dimension : CalK P w K mg base (L2.CX P w) "edges" 4 ["dimension"] ["dimension"] [0] (sp_edges K)) (k_opposite_at_dimension : CalK P w K mg base (L2.CX P w) "opposite" 4 ["dimension", "at"] ["at", "dimension"] [1, 0] (sp_opposite K)) {fd : FuncData} (F : FnP K "_law_right" "_law_right" s_law_right (He.fAd K ("_law_right", none)) fd) : FnOk P w K mg base CX0 5 (He.fAd K ("_law_right", none)) fd ["pen", "dimension"] (sp_law_right K) := by
  refine F.ok sc_law_right ln_law_right (fun cdv A outer s H vs Q E hr h => ⟨t_law_right K, PSs.nox ?_, pu_law_right vs H Q E h⟩)
  exact (pss_cons (ps_par (i := 2) (j := 3) (by rfl) sc_law_right.nd rfl rfl (by decide) rfl rfl (pa_cons (pe_op uo_div (pe_op uo_mulU (uv 1) (pe_op uo_add (uv 1) pe_int)) pe_int) (pa_cons (ucall g_law_edges (hr.mono (by decide)) rfl pass0 (pa_cons (uv 1) pa_nil)) pa_nil)) (by rfl))
    (pss_cons (ps_if (PW.pt (pw_or (pt_not (ut (ucall g_law_same (hr.mono (by decide)) rfl pass0 (pa_cons (ucall g_corners (hr.mono (by decide)) rfl passL (pa_cons (uv 1) pa_nil)) (pa_cons (pe_callTy cu_tup rfl T.b_tuple (by decide +kernel) (pa_cons (ucall g_law_corners (hr.mono (by decide)) rfl pass0 (pa_cons (uv 1) pa_nil)) pa_nil)) pa_nil))))) (pw_or1 (pt_not (ut (ucall g_law_same (hr.mono (by decide)) rfl pass0 (pa_cons (ucallk0 k_edges_dimension (hr.mono (by decide)) rfl passL (pk_cons (uv 1) pk_nil)) (pa_cons (pe_callTy cu_tup rfl T.b_tuple (by decide +kernel) (pa_cons (uv 3) pa_nil)) pa_nil)))))))) (pss_one (ps_ret pe_bl)) pss_nil)
    (pss_cons (us_set 4 sc_law_right.nd (ucall g_edges (hr.mono (by decide)) rfl passL (pa_cons (uv 1) pa_nil)))
    (pss_cons (ps_setLc (i := 5) (own := [("edge", 10)]) rfl sc_law_right.nd rfl rfl (sw_true rfl rfl rfl (by kernel_rfl)) (ui (uv 4)) (blkOk_by (own := [("edge", 10)]) (by kernel_rfl)) (fun _ _ _ _ _ => (ugn 10 sc_law_right.nd)) (fun _ _ _ _ _ => pts_nil) (fun _ _ _ _ _ => (pe_ix (ux (hu_of hr)) (ucall g_law_asks (hr.mono (by decide)) rfl pass0 (pa_cons (uv 1) (pa_cons pe_str (pa_cons (uv 10) pa_nil)))) pe_int (fun _ _ => rfl))))
    (pss_cons (ps_if (PW.pt (pw_or (utc (uo_ne hr.units) (ucall g_law_rank (hr.mono (by decide)) rfl pass0 (pa_cons (uv 5) pa_nil)) (uv 2) (nomark _)) (pw_or1 (utc (uo_ne hr.units) (ucallk0 k_corners_dimension (hr.mono (by decide)) rfl passL (pk_cons (uv 1) pk_nil)) (ucall g_corners (hr.mono (by decide)) rfl passL (pa_cons (uv 1) pa_nil)) (nomark _))))) (pss_one (ps_ret pe_bl)) pss_nil)
    (pss_cons (ps_for PassesOwn.never rfl (pi_range1 rfl T.b_range (pa_cons (uv 2) pa_nil)) (ugn 6 sc_law_right.nd) (pss_cons (us_set 7 sc_law_right.nd (ucall g_opposite (hr.mono (by decide)) rfl passL (pa_cons (uv 1) (pa_cons (uv 6) pa_nil))))
    (pss_cons (ps_if (PW.pt (pw_or (pt_not (ut (ucall g_law_same (hr.mono (by decide)) rfl pass0 (pa_cons (uv 7) (pa_cons (ucall g_law_opposite (hr.mono (by decide)) rfl pass0 (pa_cons (uv 1) (pa_cons (uv 6) pa_nil))) pa_nil))))) (pw_or1 (utc (uo_ne hr.units) (ucallk0 k_opposite_at_dimension (hr.mono (by decide)) rfl passL (pk_cons (uv 6) (pk_cons (uv 1) pk_nil))) (uv 7) (nomark _))))) (pss_one (ps_ret pe_bl)) pss_nil)
    (pss_one (ps_if (utc uo_gt (uv 1) pe_int (nomark _)) (pss_cons (ps_par (i := 8) (j := 9) (by rfl) sc_law_right.nd rfl rfl (by decide) rfl rfl (pa_cons (ucall g_law_asks (hr.mono (by decide)) rfl pass0 (pa_cons (uv 1) (pa_cons pe_str (pa_cons (uv 7) pa_nil)))) (pa_cons (pe_op uo_add (pe_slice us (uv 5) po_none (upo (uv 6))) (pe_slice us (uv 5) (upo (pe_op uo_add (uv 6) pe_int)) po_none)) pa_nil)) (by rfl))
    (pss_cons (ps_if (PW.pt (pw_or (utc (uo_ne hr.units) (ucall g_law_rank (hr.mono (by decide)) rfl pass0 (pa_cons (uv 8) pa_nil)) (pe_op uo_sub (uv 2) pe_int) (nomark _)) (pw_or (utc (uo_ne hr.units) (ucall g_law_rank (hr.mono (by decide)) rfl pass0 (pa_cons (uv 9) pa_nil)) (pe_op uo_sub (uv 2) pe_int) (nomark _)) (pw_or1 (utc (uo_ne hr.units) (ucall g_law_rank (hr.mono (by decide)) rfl pass0 (pa_cons (pe_op uo_add (uv 8) (uv 9)) pa_nil)) (pe_op uo_sub (uv 2) pe_int) (nomark _)))))) (pss_one (ps_ret pe_bl)) pss_nil)
    (pss_one (ps_if (utc (uo_ne hr.units) (ucall g_law_rank (hr.mono (by decide)) rfl pass0 (pa_cons (pe_op uo_add (uv 8) (pe_lst (pa_cons (pe_ix (ux (hu_of hr)) (uv 5) (uv 6) (fun _ _ => rfl)) pa_nil))) pa_nil)) (uv 2) (nomark _)) (pss_one (ps_ret pe_bl)) pss_nil)))) pss_nil)))))
    (pss_one (ps_ret pe_bl))))))))
theorem ok_law_right {P : Program} {w : World} {K : PySem.W.Frag} {mg : Str → Option Value} {base : Heap} (T : Top K mg) (g_law_asks : Cal P w K mg base CX0 "_law_asks" 2 ["dimension", "kind", "spot"] (sp_law_asks K)) (g_law_corners : Cal P w K mg base CX0 "_law_corners" 1 ["dimension"] (sp_law_corners K)) (g_law_edges : Cal P w K mg base CX0 "_law_edges" 2 ["dimension"] (sp_law_edges K)) (g_law_opposite : Cal P w K mg base CX0 "_law_opposite" 3 ["dimension", "at"] (sp_law_opposite K)) (g_law_rank : Cal P w K mg base CX0 "_law_rank" 2 ["rows"] (sp_law_rank K)) (g_law_same : Cal P w K mg base CX0 "_law_same" 4 ["value", "due"] (sp_law_same K 4)) (g_corners : Cal P w K mg base (L2.CX P w) "corners" 4 ["dimension"] (sp_corners K)) (g_edges : Cal P w K mg base (L2.CX P w) "edges" 4 ["dimension"] (sp_edges K)) (g_opposite : Cal P w K mg base (L2.CX P w) "opposite" 4 ["dimension", "at"] (sp_opposite K)) (k_corners_dimension : CalK P w K mg base (L2.CX P w) "corners" 4 ["dimension"] ["dimension"] [0] (sp_corners K)) (k_edges_dimension : CalK P w K mg base (L2.CX P w) "edges" 4 ["dimension"] ["dimension"] [0] (sp_edges K)) (k_opposite_at_dimension : CalK P w K mg base (L2.CX P w) "opposite" 4 ["dimension", "at"] ["at", "dimension"] [1, 0] (sp_opposite K)) : ∃ fd, FnP K "_law_right" "_law_right" s_law_right (He.fAd K ("_law_right", none)) fd ∧ FnOk P w K mg base CX0 5 (He.fAd K ("_law_right", none)) fd ["pen", "dimension"] (sp_law_right K) :=
  let ⟨fd, F⟩ := T.d_law_right
  ⟨fd, F, fk_law_right T g_law_asks g_law_corners g_law_edges g_law_opposite g_law_rank g_law_same g_corners g_edges g_opposite k_corners_dimension k_edges_dimension k_opposite_at_dimension F⟩
theorem cl_law_right {P : Program} {w : World} {K : PySem.W.Frag} {mg : Str → Option Value} {base : Heap} (T : Top K mg) (h : ∃ fd, FnP K "_law_right" "_law_right" s_law_right (He.fAd K ("_law_right", none)) fd ∧ FnOk P w K mg base CX0 5 (He.fAd K ("_law_right", none)) fd ["pen", "dimension"] (sp_law_right K)) : Cal P w K mg base CX0 "_law_right" 5 ["pen", "dimension"] (sp_law_right K) := by
  obtain ⟨fd, F, h⟩ := h
  exact ⟨⟨fd, h, F.bindsN fun _ _ _ _ _ _ us hl => match us, hl with | [_, _], _ => rfl⟩, T.a_law_right, F.kp⟩
theorem fk_law_refused {P : Program} {w : World} {K : PySem.W.Frag} {mg : Str → Option Value} {base : Heap} (T : Top K mg) (g_law_pick : Cal P w K mg base CX0 "_law_pick" 2 ["pen", "some"] (sp_law_pick K)) (g_corners : Cal P w K mg base (L2.CX P w) "corners" 4 ["dimension"] (sp_corners K)) (g_edges : Cal P w K mg base (L2.CX P w) "edges" 4 ["dimension"] (sp_edges K)) (g_opposite : Cal P w K mg base (L2.CX P w) "opposite" 4 ["dimension", "at"] (sp_opposite K)) (h_law_heard : CalH P w K mg base "_law_heard" "ask" 1 (fun _ => True) (TT_law_heard K)) (TB : LamX.TabB base mg (He.cT K ("_law_refused", none)).1 (He.cT K ("_law_refused", none)).2) {fd : FuncData} (F : FnP K "_law_refused" "_law_refused" s_law_refused (He.fAd K ("_law_refused", none)) fd) : FnOk P w K mg base CX0 7 (He.fAd K ("_law_refused", none)) fd ["pen"] (sp_law_refused K) := by
  refine funD_okC (p := ("_law_refused", none)) F sc_law_refused ln_law_refused (fun cdv A outer s H vs Q E hcd hr h => ⟨t_law_refused K, PSs.nox ?_, pu_law_refused vs H Q E h⟩)
  exact (pss_cons (ps_asg (pe_tup (pa_cons (ucall g_law_pick (hr.mono (by decide)) rfl pass0 (pa_cons (uv 0) (pa_cons (pe_lst (pa_cons pe_int (pa_cons pe_int (pa_cons (pe_un uo_neg pe_int) (pa_cons pe_bl (pa_cons pe_non (pa_cons pe_str (pa_cons (pe_tup (pa_cons pe_int pa_nil)) (pa_cons (pe_lst (pa_cons pe_int pa_nil)) (pa_cons (pe_op uo_pow pe_int pe_int) pa_nil)))))))))) pa_nil))) (pa_cons (ucall g_law_pick (hr.mono (by decide)) rfl pass0 (pa_cons (uv 0) (pa_cons (pe_lst (pa_cons pe_int (pa_cons pe_int (pa_cons pe_int pa_nil)))) pa_nil))) pa_nil))) (pg_tup (by rfl) (pgs_cons (ugn 1 sc_law_refused.nd) (pgs_cons (ugn 2 sc_law_refused.nd) pgs_nil))))
    (pss_cons (us_set 3 sc_law_refused.nd (ucall g_law_pick (hr.mono (by decide)) rfl pass0 (pa_cons (uv 0) (pa_cons (pe_lst (pa_cons (pe_un uo_neg pe_int) (pa_cons (pe_ix (ux (hu_of hr)) (pe_lst (pa_cons pe_int (pa_cons pe_int (pa_cons pe_int pa_nil)))) (pe_op uo_sub (uv 2) pe_int) (fun _ _ => rfl)) (pa_cons pe_bl (pa_cons pe_non (pa_cons pe_str (pa_cons (pe_tup (pa_cons pe_int pa_nil)) (pa_cons (pe_op uo_pow pe_int pe_int) pa_nil)))))))) pa_nil))))
    (pss_cons (us_set 4 sc_law_refused.nd (pe_lst (pa_cons (ue_lam (k := 4) h_law_heard trivial rfl TB hcd (List.mem_of_getElem? (i := 0) rfl) (tabs_un T.tn (i := 0) rfl) (hr.mono (by decide)) (hr.mono (by decide)) (LamX.lamS_by (by kernel_rfl)) rfl (fun _ _ _ _ _ => rfl) (fun A outer s H E f c' hr => (ucall g_corners (hr.mono (by decide)) rfl (passes_call (takes_of rfl rfl rfl rfl) (fun _ _ _ _ h => h)) (pa_cons (uv 1) pa_nil)))) (pa_cons (ue_lam (k := 4) h_law_heard trivial rfl TB hcd (List.mem_of_getElem? (i := 0) rfl) (tabs_un T.tn (i := 0) rfl) (hr.mono (by decide)) (hr.mono (by decide)) (LamX.lamS_by (by kernel_rfl)) rfl (fun _ _ _ _ _ => rfl) (fun A outer s H E f c' hr => (ucall g_edges (hr.mono (by decide)) rfl (passes_call (takes_of rfl rfl rfl rfl) (fun _ _ _ _ h => h)) (pa_cons (uv 1) pa_nil)))) (pa_cons (ue_lam (k := 4) h_law_heard trivial rfl TB hcd (List.mem_of_getElem? (i := 0) rfl) (tabs_un T.tn (i := 0) rfl) (hr.mono (by decide)) (hr.mono (by decide)) (LamX.lamS_by (by kernel_rfl)) rfl (fun _ _ _ _ _ => rfl) (fun A outer s H E f c' hr => (ucall g_opposite (hr.mono (by decide)) rfl (passes_call (takes_of rfl rfl rfl rfl) (fun _ _ _ _ h => h)) (pa_cons (uv 1) (pa_cons (uv 3) pa_nil))))) (pa_cons (ue_lam (k := 4) h_law_heard trivial rfl TB hcd (List.mem_of_getElem? (i := 0) rfl) (tabs_un T.tn (i := 0) rfl) (hr.mono (by decide)) (hr.mono (by decide)) (LamX.lamS_by (by kernel_rfl)) rfl (fun _ _ _ _ _ => rfl) (fun A outer s H E f c' hr => (ucall g_opposite (hr.mono (by decide)) rfl (passes_call (takes_of rfl rfl rfl rfl) (fun _ _ _ _ h => h)) (pa_cons (uv 1) (pa_cons pe_int pa_nil))))) pa_nil))))))
    (pss_one (ps_ret (ue_and (pe_cmpR (uo_eq hr.units) (uv 4) (pe_op uo_mulU (pe_lst (pa_cons (pe_tup (pa_cons pe_str (pa_cons (uv 1) pa_nil))) pa_nil)) pe_int) (nomark _)) (pe_one (pe_cmpR (uo_eq hr.units) (ue_lam (k := 4) h_law_heard trivial rfl TB hcd (List.mem_of_getElem? (i := 0) rfl) (tabs_un T.tn (i := 0) rfl) (hr.mono (by decide)) (hr.mono (by decide)) (LamX.lamS_by (by kernel_rfl)) rfl (fun _ _ _ _ _ => rfl) (fun A outer s H E f c' hr => (ucall g_opposite (hr.mono (by decide)) rfl (passes_call (takes_of rfl rfl rfl rfl) (fun _ _ _ _ h => h)) (pa_cons (uv 2) (pa_cons (uv 3) pa_nil))))) (pe_tup (pa_cons pe_str (pa_cons pe_str pa_nil))) (nomark _)))))))))
theorem ok_law_refused {P : Program} {w : World} {K : PySem.W.Frag} {mg : Str → Option Value} {base : Heap} (T : Top K mg) (g_law_pick : Cal P w K mg base CX0 "_law_pick" 2 ["pen", "some"] (sp_law_pick K)) (g_corners : Cal P w K mg base (L2.CX P w) "corners" 4 ["dimension"] (sp_corners K)) (g_edges : Cal P w K mg base (L2.CX P w) "edges" 4 ["dimension"] (sp_edges K)) (g_opposite : Cal P w K mg base (L2.CX P w) "opposite" 4 ["dimension", "at"] (sp_opposite K)) (h_law_heard : CalH P w K mg base "_law_heard" "ask" 1 (fun _ => True) (TT_law_heard K)) (TB : LamX.TabB base mg (He.cT K ("_law_refused", none)).1 (He.cT K ("_law_refused", none)).2) : ∃ fd, FnP K "_law_refused" "_law_refused" s_law_refused (He.fAd K ("_law_refused", none)) fd ∧ FnOk P w K mg base CX0 7 (He.fAd K ("_law_refused", none)) fd ["pen"] (sp_law_refused K) :=
  let ⟨fd, F⟩ := T.d_law_refused
  ⟨fd, F, fk_law_refused T g_law_pick g_corners g_edges g_opposite h_law_heard TB F⟩
theorem cl_law_refused {P : Program} {w : World} {K : PySem.W.Frag} {mg : Str → Option Value} {base : Heap} (T : Top K mg) (h : ∃ fd, FnP K "_law_refused" "_law_refused" s_law_refused (He.fAd K ("_law_refused", none)) fd ∧ FnOk P w K mg base CX0 7 (He.fAd K ("_law_refused", none)) fd ["pen"] (sp_law_refused K)) : Cal P w K mg base CX0 "_law_refused" 7 ["pen"] (sp_law_refused K) := by
  obtain ⟨fd, F, h⟩ := h
  exact ⟨⟨fd, h, F.bindsN fun _ _ _ _ _ _ us hl => match us, hl with | [_], _ => rfl⟩, T.a_law_refused, F.kp⟩
theorem fk_law {P : Program} {w : World} {K : PySem.W.Frag} {mg : Str → Option Value} {base : Heap} (T : Top K mg) (g_law_pen : Cal P w K mg base CX0 "_law_pen" 1 ["script"] (sp_law_pen K)) (g_law_refused : Cal P w K mg base CX0 "_law_refused" 7 ["pen"] (sp_law_refused K)) (g_law_right : Cal P w K mg base CX0 "_law_right" 5 ["pen", "dimension"] (sp_law_right K)) {fd : FuncData} (F : FnP K "law" "law" s_law (He.fAd K ("law", none)) fd) : FnOk P w K mg base CX0 8 (He.fAd K ("law", none)) fd ["script"] (sp_law K) := by
  refine F.ok sc_law ln_law (fun cdv A outer s H vs Q E hr h => ⟨t_law K, PSs.nox ?_, pu_law vs H Q E h⟩)
  exact (pss_cons (us_set 1 sc_law.nd (ucall g_law_pen (hr.mono (by decide)) rfl pass0 (pa_cons (uv 0) pa_nil)))
    (pss_cons (ps_for PassesOwn.never rfl (pi_range1 rfl T.b_range (pa_cons pe_int pa_nil)) (ugn 2 sc_law.nd) (pss_one (ps_if (pt_not (ut (ucall g_law_refused (hr.mono (by decide)) rfl pass0 (pa_cons (uv 1) pa_nil)))) (pss_one (ps_ret pe_bl)) pss_nil)))
    (pss_one (ps_ret (pe_callB (cu_all rfl) rfl T.b_all (by decide +kernel) (pa_cons (pe_lc (own := [("dimension", 3)]) rfl sc_law.nd (ui (pe_tup (pa_cons pe_int (pa_cons pe_int (pa_cons pe_int pa_nil))))) (blkOk_by (own := [("dimension", 3)]) (by kernel_rfl)) (fun _ _ _ _ _ => (ugn 3 sc_law.nd)) (fun _ _ _ _ _ => pts_nil) (fun _ _ _ _ _ => (ucall g_law_right (hr.mono (by decide)) rfl pass0 (pa_cons (uv 1) (pa_cons (uv 3) pa_nil))))) pa_nil))))))
theorem ok_law {P : Program} {w : World} {K : PySem.W.Frag} {mg : Str → Option Value} {base : Heap} (T : Top K mg) (g_law_pen : Cal P w K mg base CX0 "_law_pen" 1 ["script"] (sp_law_pen K)) (g_law_refused : Cal P w K mg base CX0 "_law_refused" 7 ["pen"] (sp_law_refused K)) (g_law_right : Cal P w K mg base CX0 "_law_right" 5 ["pen", "dimension"] (sp_law_right K)) : ∃ fd, FnP K "law" "law" s_law (He.fAd K ("law", none)) fd ∧ FnOk P w K mg base CX0 8 (He.fAd K ("law", none)) fd ["script"] (sp_law K) :=
  let ⟨fd, F⟩ := T.d_law
  ⟨fd, F, fk_law T g_law_pen g_law_refused g_law_right F⟩
theorem cl_law {P : Program} {w : World} {K : PySem.W.Frag} {mg : Str → Option Value} {base : Heap} (T : Top K mg) (h : ∃ fd, FnP K "law" "law" s_law (He.fAd K ("law", none)) fd ∧ FnOk P w K mg base CX0 8 (He.fAd K ("law", none)) fd ["script"] (sp_law K)) : Cal P w K mg base CX0 "law" 8 ["script"] (sp_law K) := by
  obtain ⟨fd, F, h⟩ := h
  exact ⟨⟨fd, h, F.bindsN fun _ _ _ _ _ _ us hl => match us, hl with | [_], _ => rfl⟩, T.a_law, F.kp⟩
theorem mk_corners_dimension {P : Program} {w : World} {K : PySem.W.Frag} {mg : Str → Option Value} {base : Heap} (T : Top K mg) (h : ∃ fd, FnP K "corners" "corners" s_corners (He.fAd K ("corners", none)) fd ∧ FnOk P w K mg base (L2.CX P w) 4 (He.fAd K ("corners", none)) fd ["dimension"] (sp_corners K)) : CalK P w K mg base (L2.CX P w) "corners" 4 ["dimension"] ["dimension"] [0] (sp_corners K) := by
  obtain ⟨fd, F, h⟩ := h
  exact ⟨⟨fd, h, bindsKA F (fun _ _ _ _ _ _ ws hl => match ws, hl with | [_], _ => rfl)⟩, T.a_corners, F.kp⟩
theorem mk_edges_dimension {P : Program} {w : World} {K : PySem.W.Frag} {mg : Str → Option Value} {base : Heap} (T : Top K mg) (h : ∃ fd, FnP K "edges" "edges" s_edges (He.fAd K ("edges", none)) fd ∧ FnOk P w K mg base (L2.CX P w) 4 (He.fAd K ("edges", none)) fd ["dimension"] (sp_edges K)) : CalK P w K mg base (L2.CX P w) "edges" 4 ["dimension"] ["dimension"] [0] (sp_edges K) := by
  obtain ⟨fd, F, h⟩ := h
  exact ⟨⟨fd, h, bindsKA F (fun _ _ _ _ _ _ ws hl => match ws, hl with | [_], _ => rfl)⟩, T.a_edges, F.kp⟩
theorem mk_opposite_at_dimension {P : Program} {w : World} {K : PySem.W.Frag} {mg : Str → Option Value} {base : Heap} (T : Top K mg) (h : ∃ fd, FnP K "opposite" "opposite" s_opposite (He.fAd K ("opposite", none)) fd ∧ FnOk P w K mg base (L2.CX P w) 4 (He.fAd K ("opposite", none)) fd ["dimension", "at"] (sp_opposite K)) : CalK P w K mg base (L2.CX P w) "opposite" 4 ["dimension", "at"] ["at", "dimension"] [1, 0] (sp_opposite K) := by
  obtain ⟨fd, F, h⟩ := h
  exact ⟨⟨fd, h, bindsKA F (fun _ _ _ _ _ _ ws hl => match ws, hl with | [_, _], _ => rfl)⟩, T.a_opposite, F.kp⟩

/-- the law's promise, all defs together -/
theorem law_facts {P : Program} {w : World} {K : PySem.W.Frag} {mg : Str → Option Value}  {h : Heap} {f : Addr} (X : K.In h) (G : h.Ns mainGlobals mg) (hfa : mg ("law" : Str) = some (.ref f)) (c : He.SaysD facts fns K) (ex : exB K = true) :
    ∃ fd : FuncData, (∀ (s : Shared) (v : Value), BindsTo s fd ⟨[v], []⟩ [("script", v)]) ∧ ∀ base : Heap, K.In base → base.Ns mainGlobals mg → (∀ p ∈ tf, LamX.TabB base mg (He.cT K p).1 (He.cT K p).2) → FnOk P w K mg base CX0 8 f fd ["script"] (sp_law K) := by
  have T := top_mk X G c ex
  obtain ⟨fd, F⟩ := T.d_law
  have e := hfa.symm.trans T.a_law
  cases e
  have b := FunD.bindsA (ps := ["script"]) F fun _ _ _ _ _ _ us hl => match us, hl with | [_], _ => rfl
  refine ⟨fd, fun s v => b s [v] rfl, fun base _ _ tb => ?_⟩
  have TB_law_refused := tb ("_law_refused", none) (List.mem_of_getElem? (i := 0) rfl)
  have o_is_integer := ok_is_integer (P := P) (w := w) (base := base) T 
  have g_is_integer := cl_is_integer T o_is_integer
  have e_BadDimension := e0_BadDimension (P := P) (w := w) (base := base) T
  have e_BadNumber := e0_BadNumber (P := P) (w := w) (base := base) T
  have o_width_of := ok_width_of (P := P) (w := w) (base := base) T 
  have g_width_of := cl_width_of T o_width_of
  have o_corners_in := ok_corners_in (P := P) (w := w) (base := base) T 
  have g_corners_in := cl_corners_in T o_corners_in
  have o_law_pen := ok_law_pen (P := P) (w := w) (base := base) T 
  have g_law_pen := cl_law_pen T o_law_pen
  have o_law_draw := ok_law_draw (P := P) (w := w) (base := base) T 
  have g_law_draw := cl_law_draw T o_law_draw
  have o_law_speed := ok_law_speed (P := P) (w := w) (base := base) T 
  have g_law_speed := cl_law_speed T o_law_speed
  have o_law_units := ok_law_units (P := P) (w := w) (base := base) T 
  have g_law_units := cl_law_units T o_law_units
  have o_law_pivots := ok_law_pivots (P := P) (w := w) (base := base) T 
  have g_law_pivots := cl_law_pivots T o_law_pivots
  have h_law_heard := c0_law_heard (P := P) (w := w) (base := base) T 
  have o_law_corners := ok_law_corners (P := P) (w := w) (base := base) T 
  have g_law_corners := cl_law_corners T o_law_corners
  have o_is_within := ok_is_within (P := P) (w := w) (base := base) T g_is_integer
  have g_is_within := cl_is_within T o_is_within
  have o_edges_in := ok_edges_in (P := P) (w := w) (base := base) T g_corners_in
  have g_edges_in := cl_edges_in T o_edges_in
  have o_law_pick := ok_law_pick (P := P) (w := w) (base := base) T g_law_draw
  have g_law_pick := cl_law_pick T o_law_pick
  have o_law_asks := ok_law_asks (P := P) (w := w) (base := base) T g_law_speed g_law_units
  have g_law_asks := cl_law_asks T o_law_asks
  have o_law_rank := ok_law_rank (P := P) (w := w) (base := base) T g_law_pivots
  have g_law_rank := cl_law_rank T o_law_rank
  have o_law_edges := ok_law_edges (P := P) (w := w) (base := base) T g_law_corners
  have g_law_edges := cl_law_edges T o_law_edges
  have o_need_dimension := ok_need_dimension (P := P) (w := w) (base := base) T g_is_within e_BadDimension
  have g_need_dimension := cl_need_dimension T o_need_dimension
  have o_opposite_in := ok_opposite_in (P := P) (w := w) (base := base) T g_corners_in g_edges_in
  have g_opposite_in := cl_opposite_in T o_opposite_in
  have o_law_opposite := ok_law_opposite (P := P) (w := w) (base := base) T g_law_edges
  have g_law_opposite := cl_law_opposite T o_law_opposite
  have o_corners := ok_corners (P := P) (w := w) (base := base) T g_corners_in g_need_dimension
  have g_corners := cl_corners T o_corners
  have k_corners_dimension := mk_corners_dimension T o_corners
  have o_edges := ok_edges (P := P) (w := w) (base := base) T g_edges_in g_need_dimension
  have g_edges := cl_edges T o_edges
  have k_edges_dimension := mk_edges_dimension T o_edges
  have o_opposite := ok_opposite (P := P) (w := w) (base := base) T g_is_within g_need_dimension g_opposite_in g_width_of e_BadNumber
  have g_opposite := cl_opposite T o_opposite
  have k_opposite_at_dimension := mk_opposite_at_dimension T o_opposite
  have o_law_same := ok_law_same (P := P) (w := w) (base := base) T 
  have g_law_same := cl_law_same T o_law_same
  have o_law_right := ok_law_right (P := P) (w := w) (base := base) T g_law_asks g_law_corners g_law_edges g_law_opposite g_law_rank g_law_same g_corners g_edges g_opposite k_corners_dimension k_edges_dimension k_opposite_at_dimension
  have g_law_right := cl_law_right T o_law_right
  have o_law_refused := ok_law_refused (P := P) (w := w) (base := base) T g_law_pick g_corners g_edges g_opposite h_law_heard TB_law_refused
  have g_law_refused := cl_law_refused T o_law_refused
  exact fk_law T g_law_pen g_law_refused g_law_right F
abbrev R : PySem.W.OpenRow := PySem.W.OpenLaw.row PySem.Challenge.rw_givesway_k33_simplex_edges_and_opposites
abbrev hk : PySem.W.Hook := He.hookX 5 facts fns [] tf exB
def ob (s : PySem.W.SharedT) : He.AlX := He.obsX 5 facts fns [] tf exB (HandSHeadRun.getT s)
theorem ob_eq (s : PySem.W.SharedT) : ob s = hk.obs s.abs := He.obsX_eq (HandSHeadRun.getT_eq s)
def names : List Str := (["__name__", "is_integer", "is_within", "GiveError", "BadDimension", "BadStructure", "BadPlacement", "BadNumber", "TooMany", "MOST_DIMENSION", "width_of", "need_dimension", "ENDS", "corners_in", "edges_in", "opposite_in", "corners", "edges", "opposite", "_law_pen", "_law_draw", "_law_pick", "_law_speed", "_law_units", "_law_asks", "_law_pivots", "_law_rank", "_law_heard", "_law_same", "_law_corners"] : List Str) ++ (["_law_edges", "_law_opposite", "_law_right", "_law_refused"] : List Str)
theorem run (w : World) : HandSHeadRun.RunEq R (PySem.W.view R.prog [39]) hk ob 30000 names w :=
  PySem.W.byRow2 "special-get-raises" (P := fun w => HandSHeadRun.RunEq R (PySem.W.view R.prog [39]) hk ob 30000 names w) (fun w => by intro os; kernel_rfl) (fun w => by intro os; kernel_rfl) w
end GW
open PySem PySem.W PySem.Calls PyProof.Rows
set_option maxRecDepth 100000 in
set_option maxHeartbeats 0 in
theorem PySem.Challenge.cw_givesway_k33_simplex_edges_and_opposites_holds : PySem.Challenge.rw_givesway_k33_simplex_edges_and_opposites.Holds := by
  w_on; o_law
  refine HandSHeadRun.head_any (r := OpenLaw.row PySem.Challenge.rw_givesway_k33_simplex_edges_and_opposites) (q := view (OpenLaw.row PySem.Challenge.rw_givesway_k33_simplex_edges_and_opposites).prog [39]) (H := GW.hk) (ob := GW.ob) (M := 30000) (loose := GW.names) (d := HandSHeadRun.topDef (OpenLaw.row PySem.Challenge.rw_givesway_k33_simplex_edges_and_opposites).prog 39) (kwd := []) GW.ob_eq
    (by kernel_rfl) (fun s => by kernel_rfl) GW.run (by kernel_rfl) (by kernel_rfl) (by kernel_rfl) (by rfl) (by first | assumption | decide +kernel) (by decide +kernel) ⟨rfl, rfl, rfl, rfl, rfl, by decide +kernel⟩ ?hw ?hc
  case hw => w_witness2
  case hc =>
    refine LamX.walk_ofTsE (l := PySem.Challenge.rw_givesway_k33_simplex_edges_and_opposites) (n := 63) (k := 8) (x := "script") (CX := fun _ => L2.CX0) rfl (by decide) (by kernel_rfl) ⟨rfl, by decide, by decide⟩ ?F (fun _ _ _ _ _ z => z)
    intro w mg fa h Y G hmg0
    obtain ⟨K, KX, c⟩ := Y
    have hmg : mg ("law" : PySem.Str) = some (.ref fa) := by
      have e : (HandSHeadRun.topDef (OpenLaw.row PySem.Challenge.rw_givesway_k33_simplex_edges_and_opposites).prog 39).name = ("law" : PySem.Str) := by kernel_rfl
      rw [← e]
      exact hmg0
    obtain ⟨fd, hb, hF⟩ := GW.law_facts (P := (PySem.Challenge.rw_givesway_k33_simplex_edges_and_opposites).prog) (w := w) KX G hmg c.t.d c.more
    refine ⟨K, KX, fd, GW.tf.map (He.cT K), GW.sp_law K, fun p hp => ?_, fun p hp => ?_, fun p hp => ?_, hb, fun H a ns hl hbits hT hS => GW.law_in hl hbits (fun p hp => hT _ (List.mem_map_of_mem hp)) hS, fun base h1 h2 h3 => hF base h1 h2 fun p hp => h3 _ (List.mem_map_of_mem hp)⟩
    · obtain ⟨r, hr, rfl⟩ := List.mem_map.mp hp
      exact c.empty r hr
    · obtain ⟨r, hr, rfl⟩ := List.mem_map.mp hp
      exact c.out r hr
    · obtain ⟨r, hr, rfl⟩ := List.mem_map.mp hp
      exact codeHd_of_K KX (c.hd r hr)
