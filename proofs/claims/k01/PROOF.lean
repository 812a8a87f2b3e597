import PyProof.Rows.All
import Wide.All
import OpenK.AllK
import Wide.FinOn
import HandS.Base
import HandS.Call
import HandS.List
import HandS.Comp
import HandS.Ends
import HandS.Dict
import HandS.Iter
import HandS.Text
import HandS.Words
import HandS.WordsList
import HandS.Defaults
import HandS.IsInst
import HandS.TupAny
import HandS.TupMul
import HandS.Deep
import HandS.HeadHook1
import HandS.HeadHook2
import HandS.Walk
import HandS.Zip
import HandS.Style
import KE.KStateDown
import HandS.Head0
import HandS.Head1
import HandS.Head2
import HandS.HeadEnd
import PySem.Challenge.RW_givesway_k01_checks_of_any_values
set_option Elab.async false
set_option linter.all false
set_option maxRecDepth 100000
set_option maxHeartbeats 4000000
namespace GW
open PySem PyProof.Rows L2

/-! ### readings that compute -/
def mVar (i : Nat) : TE := fun σ H Q => match σ[i]? with
  | some (some v) => Q v H
  | _ => False
section
variable {X : Cx} {a b c : Expr} {ta tb tc : TE} {pos : Pos}
theorem imE {e : Expr} {t t' : TE} (h : PE X e t) (i : ∀ σ H Q, t' σ H Q → t σ H Q) : PE X e t' :=
  ⟨fun pins s σ H Q I hw => h.run pins s σ H Q I (i σ H Q hw)⟩
theorem imO {f : Value → Value → Sem Value} {r r' : R2} (h : OpR X f r) (i : ∀ x y H Q, r' x y H Q → r x y H Q) : OpR X f r' :=
  fun pins s σ H x y v u Q I rx ry q => h pins s σ H x y v u Q I rx ry (i x y H Q q)
theorem imC {f : Value} {r r' : List V → Hp → VK → Prop} (h : CallR X f r) (i : ∀ xs H Q, r' xs H Q → r xs H Q) : CallR X f r' :=
  fun pins s σ H xs us Q I rs q => h pins s σ H xs us Q I rs (i xs H Q q)
theorem uv (i : Nat) {x : Str} (hN : X.N[i]? = some x := by rfl)
    (hv : Vis X.env.scope x := by first | exact Or.inl rfl | exact Or.inr (Or.inl rfl) | exact Or.inr (Or.inr rfl))
    (hd : (x == ("__debug__" : Str)) = false := by decide) (hcd : (x == ("__classdict__" : Str)) = false := by decide) :
    PE X (.Name x pos) (mVar i) := by
  refine imE (pv i hN hv hd hcd) fun σ H Q h => ?_
  unfold mVar at h
  cases e : σ[i]? with
  | none => rw [e] at h; exact h.elim
  | some o =>
    rw [e] at h
    cases o with
    | none => exact h.elim
    | some v => exact ⟨v, e, h⟩
/-! ### truth values -/
/-- what is wanted of a truth -/
def bQ (Q : Bool → Hp → Prop) : VK := fun x H => match x with
  | .bl k => Q k H
  | _ => False
def mTest (t : TE) : TT := fun σ H Q => t σ H (bQ Q)
theorem bQ_bl {Q : Bool → Hp → Prop} {x : V} {H : Hp} (h : bQ Q x H) : ∃ k, x = .bl k ∧ Q k H := by
  cases x <;> first | exact ⟨_, rfl, h⟩ | exact h.elim
/-- a value that is a truth, as a test -/
theorem ut {e : Expr} {t : TE} (h : PE X e t) (he : ∀ whole, isTrue e X.env whole = (do let v ← whole; standAt e.pos; holding [v] (truthy v)) := by intro _; rfl) : PT X e (mTest t) := by
  refine ⟨fun pins s σ H Q I hw => isTrue_plain (thn (h.run pins s σ H _ I hw) fun v s1 q => ?_) (he _)⟩
  obtain ⟨x, H1, I1, r1, q1⟩ := q
  obtain ⟨k, rfl, q2⟩ := bQ_bl q1
  cases r1
  exact wpAny_truthy_bool ⟨H1, I1, q2⟩
/-- a comparison as a test -/
theorem utc {op : CmpOp} {r : R2} (ho : OpR X (compareOp op) r) (ha : PE X a ta) (hb : PE X b tb) (hm : behindInMarks op b = false) :
    PT X (.Compare a [op] [b] pos) (mTest (tOp r ta tb)) := by
  refine ⟨fun pins s σ H Q I h => ?_⟩
  refine wpAny_isTrue_Compare1 (thn (ha.run pins s σ H _ I h) fun v s1 z => ?_) hm
  obtain ⟨x, H1, I1, r1, q1⟩ := z
  refine thn (hb.run pins s1 σ H1 _ I1 q1) fun u s2 z2 => ?_
  obtain ⟨y, H2, I2, r2, q2⟩ := z2
  refine thn (ho pins s2 σ H2 x y v u _ I2 r1 r2 q2) fun c s3 z3 => ?_
  obtain ⟨z, H3, I3, r3, q3⟩ := z3
  obtain ⟨k, rfl, q4⟩ := bQ_bl q3
  cases r3
  exact wpAny_truthy_bool ⟨H3, I3, q4⟩
def mAnd (ta tb : TE) : TE := fun σ H Q => ta σ H fun x H1 => match x with
  | .bl c => if c = true then tb σ H1 Q else Q (.bl false) H1
  | _ => False
def mOr (ta tb : TE) : TE := fun σ H Q => ta σ H fun x H1 => match x with
  | .bl c => if c = true then Q (.bl true) H1 else tb σ H1 Q
  | _ => False
def mNot (ta : TE) : TE := fun σ H Q => ta σ H fun x H1 => match x with
  | .bl c => Q (.bl (!c)) H1
  | _ => False
variable {rest : List Expr}
theorem ue_and (ha : PE X a ta) (hb : PE X (.BoolOp .And (b :: rest) pos) tb) : PE X (.BoolOp .And (a :: b :: rest) pos) (mAnd ta tb) := by
  refine ⟨fun pins s σ H Q I h => BoolOp_and (thn (ha.run pins s σ H _ I h) fun v s1 z => ?_)⟩
  obtain ⟨x, H1, I1, r1, q1⟩ := z
  cases x with
  | bl c =>
    cases r1
    refine wpAny_truthy_bool ?_
    cases c with
    | true => exact hb.run pins s1 σ H1 Q I1 q1
    | false => exact ⟨.bl false, H1, I1, rfl, q1⟩
  | _ => exact False.elim q1
theorem ue_or (ha : PE X a ta) (hb : PE X (.BoolOp .Or (b :: rest) pos) tb) : PE X (.BoolOp .Or (a :: b :: rest) pos) (mOr ta tb) := by
  refine ⟨fun pins s σ H Q I h => BoolOp_or (thn (ha.run pins s σ H _ I h) fun v s1 z => ?_)⟩
  obtain ⟨x, H1, I1, r1, q1⟩ := z
  cases x with
  | bl c =>
    cases r1
    refine wpAny_truthy_bool ?_
    cases c with
    | false => exact hb.run pins s1 σ H1 Q I1 q1
    | true => exact ⟨.bl true, H1, I1, rfl, q1⟩
  | _ => exact False.elim q1
theorem ue_not (ha : PE X a ta) : PE X (.UnaryOp .Not a pos) (mNot ta) := by
  refine ⟨fun pins s σ H Q I h => UnaryOp_ (thn (ha.run pins s σ H _ I h) fun v s1 z => ?_)⟩
  obtain ⟨x, H1, I1, r1, q1⟩ := z
  cases x with
  | bl c =>
    cases r1
    exact not_of (wpAny_truthy_bool ⟨.bl (!c), H1, I1, rfl, q1⟩)
  | _ => exact False.elim q1
def mChain (r r' : R2) (ta tb tc : TE) : TE := fun σ H Q => ta σ H fun x H1 => tb σ H1 fun y H2 => r x y H2 fun z H3 => match z with
  | .bl k => if k = true then tc σ H3 fun w' H4 => r' y w' H4 Q else Q (.bl false) H3
  | _ => False
theorem ue_chain {op op' : CmpOp} {r r' : R2} (ho : OpR X (compareOp op) r) (ho' : OpR X (compareOp op') r') (ha : PE X a ta) (hb : PE X b tb) (hc : PE X c tc)
    (hm : lastMarks [op, op'] [b, c] = false := by with_unfolding_all rfl) : PE X (.Compare a [op, op'] [b, c] pos) (mChain r r' ta tb tc) := by
  refine ⟨fun pins s σ H Q I h => ?_⟩
  refine Compare_chain (thn (ha.run pins s σ H _ I h) fun v s1 z => ?_) hm
  obtain ⟨x, H1, I1, r1, q1⟩ := z
  refine chain_link (thn (hb.run pins s1 σ H1 _ I1 q1) fun u s2 z2 => ?_)
  obtain ⟨y, H2, I2, r2, q2⟩ := z2
  refine thn (ho pins s2 σ H2 x y v u _ I2 r1 r2 q2) fun d s3 z3 => ?_
  obtain ⟨z, H3, I3, r3, q3⟩ := z3
  cases z with
  | bl k =>
    cases r3
    refine wpAny_truthy_bool ?_
    cases k with
    | false => exact ite_ff ⟨.bl false, H3, I3, rfl, q3⟩
    | true =>
      refine ite_tt (chain_last (thn (hc.run pins s3 σ H3 _ I3 q3) fun w' s4 z4 => ?_))
      obtain ⟨z', H4, I4, r4, q4⟩ := z4
      exact ho' pins s4 σ H4 y z' u w' Q I4 r2 r4 q4
  | _ => exact False.elim q3

/-! ### operators by values -/
def oAdd (K : PySem.W.Frag) : R2 := fun x y H Q => match x, y with
  | .int i, .int j => Q (.int (i + j)) H
  | .str i, .str j => i.length + j.length ≤ sizeLine ∧ Q (.str (i ++ j)) H
  | .ref i, .ref j => rCat (.ref i) (.ref j) H Q
  | _, _ => False
theorem uo_add : OpR X (binaryOp .Add) (oAdd X.K) := by
  intro pins s σ H x y v u Q I rx ry h
  cases x <;> cases y <;> first
    | exact False.elim h
    | exact op_add pins s σ H _ _ v u Q I rx ry ⟨_, _, rfl, rfl, h⟩
    | exact op_add_str pins s σ H _ _ v u Q I rx ry ⟨_, _, rfl, rfl, h⟩
    | exact op_cat pins s σ H _ _ v u Q I rx ry h
def oSub : R2 := fun x y H Q => match x, y with
  | .int i, .int j => Q (.int (i - j)) H
  | _, _ => False
theorem uo_sub : OpR X (binaryOp .Sub) oSub := by
  intro pins s σ H x y v u Q I rx ry h
  cases x <;> cases y <;> first
    | exact False.elim h
    | exact op_sub pins s σ H _ _ v u Q I rx ry ⟨_, _, rfl, rfl, h⟩
def oMul (K : PySem.W.Frag) : R2 := fun x y H Q => match x, y with
  | .int i, .int j => CMul i j ∧ Q (.int (i * j)) H
  | .str z, .int j => MulOk z j ∧ Q (.str (Txt.mul z j)) H
  | .ref i, .int j => rRep (.ref i) (.int j) H Q ∨ rRepT K (.ref i) (.int j) H Q
  | _, _ => False
theorem uo_mul : OpR X (binaryOp .Mult) (oMul X.K) := by
  intro pins s σ H x y v u Q I rx ry h
  cases x <;> cases y <;> first
    | exact False.elim h
    | exact op_mul pins s σ H _ _ v u Q I rx ry ⟨_, _, rfl, rfl, h.1, h.2⟩
    | exact h.elim (op_rep pins s σ H _ _ v u Q I rx ry) (op_repT pins s σ H _ _ v u Q I rx ry)
    | (obtain ⟨t, rfl⟩ := rx; obtain ⟨t', rfl⟩ := ry; exact PySem.SB.mul h.1 fun t2 k => ⟨.str _, H, I.tok _, ⟨_, rfl⟩, h.2⟩)
def oMod : R2 := fun x y H Q => match x, y with
  | .int i, .int j => 0 < j ∧ Q (.int (i % j)) H
  | _, _ => False
theorem uo_mod : OpR X (binaryOp .Mod) oMod := by
  intro pins s σ H x y v u Q I rx ry h
  cases x <;> cases y <;> first
    | exact False.elim h
    | exact op_mod pins s σ H _ _ v u Q I rx ry ⟨_, _, rfl, rfl, h.1, h.2⟩
def oDiv : R2 := fun x y H Q => match x, y with
  | .int i, .int j => CDiv i j ∧ Q (.int (i / j)) H
  | _, _ => False
theorem uo_div : OpR X (binaryOp .FloorDiv) oDiv := by
  intro pins s σ H x y v u Q I rx ry h
  cases x <;> cases y <;> first
    | exact False.elim h
    | exact op_fdiv pins s σ H _ _ v u Q I rx ry ⟨_, _, rfl, rfl, h.1, h.2⟩
def oPow : R2 := fun x y H Q => match x, y with
  | .int i, .int j => CPow i j ∧ Q (.int (i ^ j.toNat)) H
  | _, _ => False
theorem uo_pow : OpR X (binaryOp .Pow) oPow := by
  intro pins s σ H x y v u Q I rx ry h
  cases x <;> cases y <;> first
    | exact False.elim h
    | exact op_pow pins s σ H _ _ v u Q I rx ry ⟨_, _, rfl, rfl, h.1, h.2⟩
/-- an order of ints, of texts -/
def oOrd (p : Int → Int → Bool) (t : List Nat → List Nat → Bool) : R2 := fun x y H Q => match x, y with
  | .int i, .int j => Q (.bl (p i j)) H
  | .str i, .str j => Q (.bl (t i.cps.toList j.cps.toList)) H
  | _, _ => False
abbrev oLt : R2 := oOrd (fun i j => decide (i < j)) fun i j => decide (i < j)
abbrev oLe : R2 := oOrd (fun i j => decide (i ≤ j)) fun i j => !decide (j < i)
abbrev oGt : R2 := oOrd (fun i j => decide (j < i)) fun i j => decide (j < i)
abbrev oGe : R2 := oOrd (fun i j => decide (j ≤ i)) fun i j => !decide (i < j)
theorem uo_lt : OpR X (compareOp .Lt) oLt := by
  intro pins s σ H x y v u Q I rx ry h
  cases x <;> cases y <;> first
    | exact False.elim h
    | exact op_lt pins s σ H _ _ v u Q I rx ry ⟨_, _, rfl, rfl, h⟩
    | exact op_lt_str pins s σ H _ _ v u Q I rx ry ⟨_, _, rfl, rfl, h⟩
theorem uo_le : OpR X (compareOp .LtE) oLe := by
  intro pins s σ H x y v u Q I rx ry h
  cases x <;> cases y <;> first
    | exact False.elim h
    | exact op_le pins s σ H _ _ v u Q I rx ry ⟨_, _, rfl, rfl, h⟩
    | exact op_le_str pins s σ H _ _ v u Q I rx ry ⟨_, _, rfl, rfl, h⟩
theorem uo_gt : OpR X (compareOp .Gt) oGt := by
  intro pins s σ H x y v u Q I rx ry h
  cases x <;> cases y <;> first
    | exact False.elim h
    | exact op_gt pins s σ H _ _ v u Q I rx ry ⟨_, _, rfl, rfl, h⟩
    | exact op_gt_str pins s σ H _ _ v u Q I rx ry ⟨_, _, rfl, rfl, h⟩
theorem uo_ge : OpR X (compareOp .GtE) oGe := by
  intro pins s σ H x y v u Q I rx ry h
  cases x <;> cases y <;> first
    | exact False.elim h
    | exact op_ge pins s σ H _ _ v u Q I rx ry ⟨_, _, rfl, rfl, h⟩
    | exact op_ge_str pins s σ H _ _ v u Q I rx ry ⟨_, _, rfl, rfl, h⟩

/-! ### ==, is, in -/
def ng : Bool → Bool → Bool
  | false, b => b
  | true, b => !b
def oEq (K : PySem.W.Frag) : R2 := fun x y H Q => match scal x y with
  | true => Q (.bl (decide (x = y))) H
  | false => rEqD K x y H Q
def oNe (K : PySem.W.Frag) : R2 := fun x y H Q => match scal x y with
  | true => Q (.bl (!decide (x = y))) H
  | false => rNeD K x y H Q
theorem uo_eq (hu : X.A.units + 64 < cLine) : OpR X (compareOp .Eq) (oEq X.K) := by
  intro pins s σ H x y v u Q I rx ry h
  unfold oEq at h
  cases e : scal x y with
  | true => rw [e] at h; exact op_eq pins s σ H x y v u Q I rx ry ⟨e, h⟩
  | false => rw [e] at h; exact op_eqD hu pins s σ H x y v u Q I rx ry h
theorem uo_ne (hu : X.A.units + 64 < cLine) : OpR X (compareOp .NotEq) (oNe X.K) := by
  intro pins s σ H x y v u Q I rx ry h
  unfold oNe at h
  cases e : scal x y with
  | true => rw [e] at h; exact op_ne pins s σ H x y v u Q I rx ry ⟨e, h⟩
  | false => rw [e] at h; exact op_neD hu pins s σ H x y v u Q I rx ry h
def oIs (neg : Bool) : R2 := fun x y H Q => match y, x with
  | .non, x => Q (.bl (ng neg <| decide (x = .non))) H
  | .bl b, .bl a => Q (.bl (ng neg <| decide (a = b))) H
  | _, _ => False
theorem uo_is : OpR X (compareOp .Is) (oIs false) := by
  intro pins s σ H x y v u Q I rx ry h
  cases y with
  | non => exact op_isN pins s σ H _ _ v u Q I rx ry ⟨rfl, by simpa [oIs, ng] using h⟩
  | bl b =>
    cases x <;> first
      | exact False.elim h
      | skip
    rename_i a
    cases (show v = Value.bool a from rx)
    cases (show u = Value.bool b from ry)
    by_cases e : a = b
    · subst e
      exact wpAny_is_self rfl ⟨.bl true, H, I, rfl, by simpa [oIs, ng] using h⟩
    · exact wpAny_is_other rfl (fun z => e (Value.bool.inj z)) ⟨.bl false, H, I, rfl, by simpa [oIs, ng, e] using h⟩
  | _ => exact False.elim (by cases x <;> exact h)
theorem uo_isnt : OpR X (compareOp .IsNot) (oIs true) := by
  intro pins s σ H x y v u Q I rx ry h
  cases y with
  | non => exact op_notN pins s σ H _ _ v u Q I rx ry ⟨rfl, by simpa [oIs, ng] using h⟩
  | bl b =>
    cases x <;> first
      | exact False.elim h
      | skip
    rename_i a
    cases (show v = Value.bool a from rx)
    cases (show u = Value.bool b from ry)
    by_cases e : a = b
    · subst e
      exact wpAny_isNot_self rfl ⟨.bl false, H, I, rfl, by simpa [oIs, ng] using h⟩
    · exact wpAny_isNot_other rfl (fun z => e (Value.bool.inj z)) ⟨.bl true, H, I, rfl, by simpa [oIs, ng, e] using h⟩
  | _ => exact False.elim (by cases x <;> exact h)
/-- in: a sign in a text; data in a list; a key in a dict -/
def oIn (K : PySem.W.Frag) (neg : Bool) : R2 := fun x y H Q => match y with
  | .str z => (match x with
    | .str ⟨⟨[c]⟩⟩ => Q (.bl (ng neg <| decide (c ∈ z.cps.toList))) H
    | _ => False)
  | .ref a => (∃ o, DGet H a x o ∧ Q (.bl (ng neg <| o.isSome)) H) ∨ (∃ d ds, Dp K H x d ∧ Dp K H (.ref a) (.list ds) ∧ SeqAt.shaped d = true ∧ SeqAt.shaped (.list ds) = true ∧ Q (.bl (ng neg <| ds.any fun z => PyData.eqv z d)) H) ∨
      ∃ xs, (SqL K H a xs ∨ SqT K H a xs) ∧ flatV x = true ∧ xs.all flatV = true ∧ Q (.bl (ng neg <| inV x xs)) H
  | _ => False
theorem oIn_str {K : PySem.W.Frag} {neg : Bool} {x : V} {z : Str} {H : Hp} {Q : VK} (h : oIn K neg x (.str z) H Q) : ∃ c, x = .str ⟨⟨[c]⟩⟩ ∧ Q (.bl (ng neg <| decide (c ∈ z.cps.toList))) H := by
  unfold oIn at h
  simp only at h
  split at h
  · exact ⟨_, rfl, h⟩
  · exact h.elim
theorem uo_in (hu : X.A.units + 65 < cLine) : OpR X (compareOp .In) (oIn X.K false) := by
  intro pins s σ H x y v u Q I rx ry h
  cases y with
  | str z =>
    obtain ⟨c, rfl, q⟩ := oIn_str h
    exact op_in_sign pins s σ H _ _ v u Q I rx ry ⟨c, z, rfl, rfl, q⟩
  | ref a =>
    rcases h with ⟨o, g, q⟩ | ⟨d, ds, h1, h2, h3, h4, q⟩ | ⟨xs, h1, h2, h3, q⟩
    · cases (show u = Value.ref a from ry)
      exact d_in (by omega) I g rx fun s2 I2 => ⟨.bl _, H, I2, rfl, q⟩
    · exact op_inD hu pins s σ H x _ v u Q I rx ry ⟨d, ds, h1, h2, h3, h4, q⟩
    · exact op_in_seq pins s σ H x _ v u Q I rx ry ⟨a, xs, rfl, h1, h2, h3, q⟩
  | _ => exact False.elim h
theorem uo_nin (hu : X.A.units + 65 < cLine) : OpR X (compareOp .NotIn) (oIn X.K true) := by
  intro pins s σ H x y v u Q I rx ry h
  cases y with
  | str z =>
    obtain ⟨c, rfl, q⟩ := oIn_str h
    exact op_notIn_sign pins s σ H _ _ v u Q I rx ry ⟨c, z, rfl, rfl, q⟩
  | ref a =>
    rcases h with ⟨o, g, q⟩ | ⟨d, ds, h1, h2, h3, h4, q⟩ | ⟨xs, h1, h2, h3, q⟩
    · cases (show u = Value.ref a from ry)
      exact d_notIn (by omega) I g rx fun s2 I2 => ⟨.bl _, H, I2, rfl, q⟩
    · exact op_notInD hu pins s σ H x _ v u Q I rx ry ⟨d, ds, h1, h2, h3, h4, q⟩
    · exact op_notIn_seq pins s σ H x _ v u Q I rx ry ⟨a, xs, rfl, h1, h2, h3, q⟩
  | _ => exact False.elim h

/-! ### the kinds of values -/
inductive Kd where
  | non | bl | int | str | lst | tup | dct
def Kd.nm : Kd → String
  | .non => "NoneType" | .bl => "bool" | .int => "int" | .str => "str" | .lst => "list" | .tup => "tuple" | .dct => "dict"
def isB : Kd → Kd → Bool
  | .non, .non => true | .bl, .bl => true | .bl, .int => true | .int, .int => true | .str, .str => true | .lst, .lst => true | .tup, .tup => true | .dct, .dct => true
  | _, _ => false
theorem isB_ok (t c : Kd) (hc : c ≠ .non) : kitB t.nm c.nm = some (isB t c) := by
  cases c <;> first
    | exact absurd rfl hc
    | (cases t <;> decide +kernel)
/-- what stands at an address -/
inductive AtT (K : PySem.W.Frag) (H : Hp) (a : Addr) : Kd → Prop where
  | lst {xs : List V} (h : SqL K H a xs) : AtT K H a .lst
  | tup {xs : List V} (h : SqT K H a xs) : AtT K H a .tup
  | dk {kvs : List (Key × V)} (h : H a = some (.dK kvs)) : AtT K H a .dct
  | dt {kvs : List (List Key × V)} (h : H a = some (.dT kvs)) : AtT K H a .dct
theorem AtT.ty {K : PySem.W.Frag} {H : Hp} {a : Addr} {t : Kd} (h : AtT K H a t) : TyX K H (.ref a) (.type t.nm) := by
  cases h with
  | lst h =>
    rcases h with (h | ⟨o, h⟩) | ⟨o, its, n, h, hc, _⟩
    · exact .base (.lst h)
    · exact .base (.frz h)
    · exact .kList h hc
  | tup h =>
    rcases h with (h | ⟨o, h⟩) | ⟨o, its, n, h, hc, _⟩
    · exact .base (.tup h)
    · exact .fTuple h
    · exact .kTuple h hc
  | dk h => exact .base (.dK h)
  | dt h => exact .base (.dT h)
def isV (K : PySem.W.Frag) (H : Hp) (f : Kd → Bool) (Q : Bool → Prop) : V → Prop
  | .non => Q (f .non)
  | .bl _ => Q (f .bl)
  | .int _ => Q (f .int)
  | .str _ => Q (f .str)
  | .ref a => ∃ t, AtT K H a t ∧ Q (f t)
  | _ => False
theorem isV_ty {K : PySem.W.Frag} {H : Hp} {f : Kd → Bool} {Q : Bool → Prop} {x : V} (h : isV K H f Q x) : ∃ t, TyX K H x (.type (Kd.nm t)) ∧ Q (f t) := by
  cases x <;> first
    | exact h.elim
    | exact ⟨.non, .base .non, h⟩
    | exact ⟨.bl, .base (.bl _), h⟩
    | exact ⟨.int, .base (.int _), h⟩
    | exact ⟨.str, .base (.str _), h⟩
    | (obtain ⟨t, h1, h2⟩ := h; exact ⟨t, h1.ty, h2⟩)
def rIs1 (K : PySem.W.Frag) (c : Kd) : List V → Hp → VK → Prop := fun vs H Q => match vs with
  | [x, .ty n] => n = c.nm ∧ isV K H (fun t => isB t c) (fun b => Q (.bl b) H) x
  | _ => False
theorem call_is1 (c : Kd) (hc : c ≠ .non := by intro z; cases z) : CallR X (.builtin "isinstance") (rIs1 X.K c) := imC call_isi fun vs H Q h => by
  unfold rIs1 at h
  split at h
  · obtain ⟨rfl, h⟩ := h
    obtain ⟨t, h1, h2⟩ := isV_ty h
    exact ⟨_, _, _, _, _, rfl, .ty _, h1, kit_ty (isB_ok t c hc), h2⟩
  · exact h.elim
def rIs2 (K : PySem.W.Frag) (c d : Kd) : List V → Hp → VK → Prop := fun vs H Q => match vs with
  | [x, .ref p] => H p = some (.tup [.ty c.nm, .ty d.nm]) ∧ isV K H (fun t => isB t c || isB t d) (fun b => Q (.bl b) H) x
  | _ => False
theorem call_is2 (c d : Kd) (hc : c ≠ .non := by intro z; cases z) (hd : d ≠ .non := by intro z; cases z) : CallR X (.builtin "isinstance") (rIs2 X.K c d) := imC call_isiT fun vs H Q h => by
  unfold rIs2 at h
  split at h
  · obtain ⟨hp, h⟩ := h
    obtain ⟨t, h1, h2⟩ := isV_ty h
    refine ⟨_, _, _, _, _, _, rfl, hp, .cons (.ty _) (.cons (.ty _) .nil), h1, ?_, h2⟩
    exact kitAny_cons (kit_ty (isB_ok t c hc)) (fun e => by rw [e, Bool.false_or]; exact kitAny_cons (kit_ty (isB_ok t d hd)) (fun e2 => by rw [e2]; exact kitAny_nil) fun e2 => by rw [e2]) fun e => by rw [e]; rfl
  · exact h.elim

/-! ### built-ins by values -/
/-- a list or a tuple -/
def Sq (K : PySem.W.Frag) (H : Hp) (a : Addr) (xs : List V) : Prop := SqL K H a xs ∨ SqT K H a xs
def lenH (K : PySem.W.Frag) (H : Hp) (a : Addr) (n : Nat) : Prop := (∃ xs, Sq K H a xs ∧ n = xs.length) ∨ (∃ kvs : List (Key × V), H a = some (.dK kvs) ∧ n = kvs.length)
def rLenU (K : PySem.W.Frag) : List V → Hp → VK → Prop := fun vs H Q => match vs with
  | [.str z] => z.length ≤ sizeLine ∧ Q (.int z.length) H
  | [.ref a] => ∃ n, lenH K H a n ∧ Q (.int (n : Nat)) H
  | _ => False
theorem cu_len : CallR X (.builtin "len") (rLenU X.K) := by
  intro pins s σ H vs us Q I r h
  unfold rLenU at h
  split at h
  · exact call_len_str pins s σ H _ us Q I r ⟨_, rfl, h.1, h.2⟩
  · obtain ⟨n, h1 | h1, q⟩ := h
    · obtain ⟨xs, h2, rfl⟩ := h1
      exact call_len_seq pins s σ H _ us Q I r ⟨_, xs, rfl, h2, q⟩
    · obtain ⟨kvs, h2, rfl⟩ := h1
      obtain ⟨u, rfl, ru⟩ := vals1 r
      cases ru
      exact d_len I (.inl h2) fun t s2 I2 => ⟨.int kvs.length, H, I2, ⟨t, rfl⟩, q⟩
  · exact h.elim
def rIntU : List V → Hp → VK → Prop := fun vs H Q => match vs with
  | [.int i] => Q (.int i) H
  | [.bl k] => Q (.int (if k then 1 else 0)) H
  | _ => False
theorem cu_int : CallR X (.type "int") rIntU := imC call_int1 fun vs H Q h => by
  unfold rIntU at h
  split at h
  · exact .inl ⟨_, rfl, h⟩
  · exact .inr ⟨_, rfl, h⟩
  · exact h.elim
def rBoolU : List V → Hp → VK → Prop := fun vs H Q => match vs with
  | [.int i] => Q (.bl (i != 0)) H
  | [.bl k] => Q (.bl k) H
  | _ => False
theorem cu_bool : CallR X (.type "bool") rBoolU := imC call_bool1 fun vs H Q h => by
  unfold rBoolU at h
  split at h
  · exact .inl ⟨_, rfl, h⟩
  · exact .inr ⟨_, rfl, h⟩
  · exact h.elim
def rAbsU : List V → Hp → VK → Prop := fun vs H Q => match vs with
  | [.int i] => Q (.int (if i < 0 then -i else i)) H
  | _ => False
theorem cu_abs : CallR X (.builtin "abs") rAbsU := imC call_abs fun vs H Q h => by
  unfold rAbsU at h
  split at h
  · exact ⟨_, rfl, h⟩
  · exact h.elim
/-- repr of a flat value -/
def rReprS : List V → Hp → VK → Prop := fun vs H Q => match vs with
  | [.bl b] => Q (.str (if b then "True" else "False" : Str)) H
  | [.non] => Q (.str "None") H
  | [.int i] => i.natAbs.log2 < 1920 ∧ Q (.str (toString i)) H
  | [.str z] => (reprText z).length ≤ sizeLine ∧ Q (.str (reprText z)) H
  | _ => False
theorem cu_reprS : CallR X (.builtin "repr") rReprS := by
  intro pins s σ H vs us Q I r h
  unfold rReprS at h
  split at h
  · obtain ⟨u, rfl, ru⟩ := vals1 r
    cases ru
    exact PySem.P.repr_of_bool ⟨.str _, H, I.tok _, ⟨_, rfl⟩, h⟩
  · obtain ⟨u, rfl, ru⟩ := vals1 r
    cases ru
    exact PySem.P.repr_of_none ⟨.str _, H, I.tok _, ⟨_, rfl⟩, h⟩
  · obtain ⟨u, rfl, t, rfl⟩ := vals1 r
    exact PySem.P.repr_of_int h.1 ⟨.str _, H, I.tok _, ⟨_, rfl⟩, h.2⟩
  · obtain ⟨u, rfl, t, rfl⟩ := vals1 r
    exact PySem.P.repr_of_str ⟨.str _, H, I.tok _, ⟨_, rfl⟩, h.2⟩ h.1
  · exact h.elim
def rListU (K : PySem.W.Frag) : List V → Hp → VK → Prop := fun vs H Q => match vs with
  | [.ref a] => ∃ xs, Sq K H a xs ∧ ∀ p, H p = none → Q (.ref p) (upd H p (.lst xs))
  | _ => False
theorem cu_list : CallR X (.type "list") (rListU X.K) := imC call_list_of fun vs H Q h => by
  unfold rListU at h
  split at h
  · obtain ⟨xs, h1, q⟩ := h
    exact ⟨_, xs, rfl, h1, q⟩
  · exact h.elim
def rTupU (K : PySem.W.Frag) : List V → Hp → VK → Prop := fun vs H Q => match vs with
  | [.ref a] => ∃ xs, (SqL K H a xs ∧ ∀ p, H p = none → Q (.ref p) (upd H p (.tup xs))) ∨ (SqT K H a xs ∧ Q (.ref a) H)
  | _ => False
theorem cu_tup : CallR X (.type "tuple") (rTupU X.K) := imC call_tuple_of fun vs H Q h => by
  unfold rTupU at h
  split at h
  · obtain ⟨xs, h1⟩ := h
    exact ⟨_, xs, rfl, h1⟩
  · exact h.elim
def rAllU (K : PySem.W.Frag) : List V → Hp → VK → Prop := fun vs H Q => match vs with
  | [.ref a] => ∃ bs : List Bool, SqL K H a (bs.map V.bl) ∧ Q (.bl (bs.all id)) H
  | _ => False
theorem cu_all (hc : X.calm = true) : CallR X (.builtin "all") (rAllU X.K) := imC (cr_all hc) fun vs H Q h => by
  unfold rAllU at h
  split at h
  · obtain ⟨bs, h1, q⟩ := h
    exact ⟨_, bs, rfl, h1, q⟩
  · exact h.elim
def rAnyU (K : PySem.W.Frag) : List V → Hp → VK → Prop := fun vs H Q => match vs with
  | [.ref a] => ∃ bs : List Bool, SqL K H a (bs.map V.bl) ∧ Q (.bl (bs.any id)) H
  | _ => False
theorem cu_any (hc : X.calm = true) : CallR X (.builtin "any") (rAnyU X.K) := imC (cr_any hc) fun vs H Q h => by
  unfold rAnyU at h
  split at h
  · obtain ⟨bs, h1, q⟩ := h
    exact ⟨_, bs, rfl, h1, q⟩
  · exact h.elim

/-! ### subscripts -/
def oIx (K : PySem.W.Frag) : R2 := fun x y H Q => match x, y with
  | .str z, .int i => z.length ≤ sizeLine ∧ ∃ c, atI z.cps.toList i = some c ∧ Q (.str ⟨#[c]⟩) H
  | .ref a, y => (∃ xs i v, y = .int i ∧ Sq K H a xs ∧ atI xs i = some v ∧ Q v H) ∨ ∃ v, DGet H a y (some v) ∧ Q v H
  | _, _ => False
theorem ix_dget (hu : X.A.units + 1 < cLine) : IxR X (fun x y H Q => ∃ a v, x = .ref a ∧ DGet H a y (some v) ∧ Q v H) := by
  intro value slice pins s σ H x y v u Q I rx ry h hs
  obtain ⟨a, r, rfl, g, q⟩ := h
  cases (show v = Value.ref a from rx)
  exact tail_any (dict_typeIs I g) PySem.F.slot_dict_getitem.lookup (d_getItem hu I g ry fun w' s3 I3 rw' => ⟨r, H, I3, rw', q⟩) hs
theorem ux (hu : X.A.units + 1 < cLine) : IxR X (oIx X.K) := by
  intro value slice pins s σ H x y v u Q I rx ry h hs
  unfold oIx at h
  split at h
  · obtain ⟨h1, c, h2, q⟩ := h
    exact ix_str value slice pins s σ H _ _ v u Q I rx ry ⟨_, _, _, rfl, rfl, h1, h2, q⟩ hs
  · rcases h with ⟨xs, i, z, rfl, h1 | h1, h2, q⟩ | ⟨z, g, q⟩
    · exact ix_list value slice pins s σ H _ _ v u Q I rx ry ⟨_, _, _, _, rfl, rfl, h1, h2, q⟩ hs
    · exact ix_tup value slice pins s σ H _ _ v u Q I rx ry ⟨_, _, _, _, rfl, rfl, h1, h2, q⟩ hs
    · exact ix_dget hu value slice pins s σ H _ _ v u Q I rx ry ⟨_, z, rfl, g, q⟩ hs
  · exact h.elim
def oSl (K : PySem.W.Frag) : V → Option Int → Option Int → Hp → VK → Prop := fun x lo hi H Q => match x with
  | .str z => z.length ≤ sizeLine ∧ Q (.str (cutS z lo hi)) H
  | .ref a => ∃ xs, (SqL K H a xs ∧ ∀ p, H p = none → Q (.ref p) (upd H p (.lst (cutV xs lo hi)))) ∨ (SqT K H a xs ∧
      (HT.sIx xs.length 0 lo = 0 ∧ HT.sIx xs.length xs.length hi = xs.length → Q (.ref a) H) ∧
      (¬ (HT.sIx xs.length 0 lo = 0 ∧ HT.sIx xs.length xs.length hi = xs.length) → ∀ p, H p = none → Q (.ref p) (upd H p (.tup (cutV xs lo hi)))))
  | _ => False
theorem us : SlR X (oSl X.K) := by
  intro pins s σ H x v vl vu lo hi sl Q I rx hs pl pu h
  unfold oSl at h
  split at h
  · exact sl_str pins s σ H _ v vl vu lo hi sl Q I rx hs pl pu ⟨_, rfl, h.1, h.2⟩
  · obtain ⟨xs, ⟨h1, q⟩ | ⟨h1, q1, q2⟩⟩ := h
    · exact sl_list pins s σ H _ v vl vu lo hi sl Q I rx hs pl pu ⟨_, xs, rfl, h1, q⟩
    · exact sl_tupA pins s σ H _ v vl vu lo hi sl Q I rx hs pl pu ⟨_, xs, rfl, h1, q1, q2⟩
  · exact h.elim
def mPart (t : TE) : TO := fun σ H Q => t σ H fun x H1 => match x with
  | .int i => Q (some i) H1
  | _ => False
theorem upo {e : Expr} {te : TE} (h : PE X e te) : PO X (some e) (mPart te) := by
  refine ⟨fun pins s σ H Q I hw => ?_⟩
  rw [evalPart_some]
  refine thn (h.run pins s σ H _ I hw) fun u s1 z => ?_
  obtain ⟨x, H1, I1, r1, q1⟩ := z
  cases x with
  | int i =>
    obtain ⟨t, rfl⟩ := r1
    exact ⟨some i, H1, I1, .int i t, q1⟩
  | _ => exact False.elim q1

def oNeg : V → Hp → VK → Prop := fun x H Q => match x with
  | .int i => Q (.int (-i)) H
  | _ => False
theorem uo_neg : UnR X (unaryOp .USub) oNeg := by
  intro pins s σ H x v Q I rx h
  cases x <;> first
    | exact False.elim h
    | exact un_neg pins s σ H _ v Q I rx ⟨_, rfl, h⟩
/-- a chain of two comparisons as a test -/
theorem ut_chain {op op' : CmpOp} {r r' : R2} (ho : OpR X (compareOp op) r) (ho' : OpR X (compareOp op') r') (ha : PE X a ta) (hb : PE X b tb) (hc : PE X c tc)
    (hm : lastMarks [op, op'] [b, c] = false := by with_unfolding_all rfl) : PT X (.Compare a [op, op'] [b, c] pos) (mTest (mChain r r' ta tb tc)) := by
  refine ⟨fun pins s σ H Q I h => ?_⟩
  refine isTrue_chain (thn (ha.run pins s σ H _ I h) fun v s1 z => ?_) hm
  obtain ⟨x, H1, I1, r1, q1⟩ := z
  refine test_link (thn (hb.run pins s1 σ H1 _ I1 q1) fun u s2 z2 => ?_)
  obtain ⟨y, H2, I2, r2, q2⟩ := z2
  refine thn (ho pins s2 σ H2 x y v u _ I2 r1 r2 q2) fun d s3 z3 => ?_
  obtain ⟨z, H3, I3, r3, q3⟩ := z3
  cases z with
  | bl k =>
    cases r3
    refine wpAny_truthy_bool ?_
    cases k with
    | false => exact ite_ff ⟨H3, I3, q3⟩
    | true =>
      refine ite_tt (test_last (thn (hc.run pins s3 σ H3 _ I3 q3) fun w' s4 z4 => ?_))
      obtain ⟨z', H4, I4, r4, q4⟩ := z4
      refine thn (ho' pins s4 σ H4 y z' u w' _ I4 r2 r4 q4) fun d' s5 z5 => ?_
      obtain ⟨z2, H5, I5, r5, q5⟩ := z5
      obtain ⟨k2, rfl, q6⟩ := bQ_bl q5
      cases r5
      exact wpAny_truthy_bool ⟨H5, I5, q6⟩
  | _ => exact False.elim q3
/-- any value's truth -/
def tru (K : PySem.W.Frag) (Q : Bool → Hp → Prop) : VK := fun x H => match x with
  | .bl k => Q k H
  | .non => Q false H
  | .int i => Q (i != 0) H
  | .str z => z.length ≤ sizeLine ∧ Q ((z.length : Int) != 0) H
  | .ref p => ∃ k, TruV K (.ref p) H k ∧ Q k H
  | _ => False
def mTru (K : PySem.W.Frag) (t : TE) : TT := fun σ H Q => t σ H (tru K Q)
theorem utt {e : Expr} {t : TE} (h : PE X e t) (he : ∀ whole, isTrue e X.env whole = (do let v ← whole; standAt e.pos; holding [v] (truthy v)) := by intro _; rfl) : PT X e (mTru X.K t) := by
  refine ⟨fun pins s σ H Q I hw => isTrue_plain (thn (h.run pins s σ H _ I hw) fun v s1 q => ?_) (he _)⟩
  obtain ⟨x, H1, I1, r1, q1⟩ := q
  refine tru_ok pins s1 σ H1 x v Q I1 r1 ?_
  cases x with
  | bl k => exact ⟨k, rfl, q1⟩
  | non => exact ⟨false, rfl, q1⟩
  | int i => exact ⟨_, rfl, q1⟩
  | str z => exact ⟨_, ⟨q1.1, rfl⟩, q1.2⟩
  | ref p => exact q1
  | _ => exact False.elim q1
/-! ### what is walked -/
theorem PIor {tg it : Expr} {r1 r2 : TI} (h1 : PI X tg it r1) (h2 : PI X tg it r2) : PI X tg it (fun σ H R => r1 σ H R ∨ r2 σ H R) :=
  ⟨fun pins s σ H R I h => h.elim (h1.run pins s σ H R I) (h2.run pins s σ H R I)⟩
def iU (K : PySem.W.Frag) (te : TE) : TI := fun σ H R => iList K te σ H R ∨ iTup K te σ H R ∨ iStr te σ H R
theorem ui {tg e : Expr} {te : TE} (he : PE X e te) : PI X tg e (iU X.K te) := PIor (pi_list he) (PIor (pi_tup he) (pi_str he))
/-! ### stores -/
def oSet (K : PySem.W.Frag) : V → V → V → Hp → (Hp → Prop) → Prop := fun o i v H Q => match o with
  | .ref p => (∃ xs k j, i = .int k ∧ H p = some (.lst xs) ∧ ixN xs.length k = some j ∧ Q (upd H p (.lst (xs.set j v)))) ∨ ∃ H', DPut H p i v H' ∧ Q H'
  | _ => False
theorem uset (hu : X.A.units + 1 < cLine) : PSet X (oSet X.K) := by
  intro pins s σ H o i v ov iv u Q I ro ri rv h
  cases o with
  | ref p =>
    rcases h with ⟨xs, k, j, rfl, h1, h2, q⟩ | ⟨H2, h1, q⟩
    · exact set_list pins s σ H _ _ v ov iv u Q I ro ri rv ⟨p, xs, k, j, rfl, rfl, h1, h2, q⟩
    · cases (show ov = Value.ref p from ro)
      exact d_setItem hu I h1 ri rv fun s2 I2 => ⟨H2, I2, q⟩
  | _ => exact False.elim h
/-! ### calls of the text's defs -/
/-- the def x keeps its promise -/
structure Cal (P : Program) (w : World) (K : PySem.W.Frag) (mg : Str → Option Value) (base : Heap) (CX : CXT) (x : Str) (k : Nat) (ps : List Str) (sp : Sp) : Prop where
  ex : ∃ fd, FnOk P w K mg base CX k (He.ga K x) fd ps sp ∧ Binds K fd ps []
  at_ : mg x = some (.ref (He.ga K x))
  kp : PySem.W.keepIn K (.ref (He.ga K x)) = true
variable {CX : CXT} {x : Str} {k : Nat} {ps : List Str} {sp : Sp} {E : XK} {e : Expr} {es : List Expr} {t : TA} {p : Pos}
theorem ucall (F : Cal X.prog X.w X.K X.mg X.base CX x k ps sp) (hr : Room k X.A) (hg : Gl X x) (hx : Passes CX X E)
    (ha : PA X (e :: es) t) (hdb : (x == ("__debug__" : Str)) = false := by decide) (he : starEach (e :: es) X.env = (false, eval e X.env) :: starEach es X.env := by rfl) (hpl : (backTo pos (starEach es X.env)).any (·.1) = false := by rfl) :
    PE X (.Call (.Name x p) (e :: es) [] pos) (tCall sp [] E t) := by
  obtain ⟨fd, h1, h2⟩ := F.ex
  exact pe_call h1 hr hg F.at_ F.kp h2 .nil hx ha hdb he hpl
theorem ucall0 (F : Cal X.prog X.w X.K X.mg X.base CX x k ps sp) (hr : Room k X.A) (hg : Gl X x) (hx : Passes CX X E) (hdb : (x == ("__debug__" : Str)) = false := by decide) :
    PE X (.Call (.Name x p) [] [] pos) (tCall sp [] E tNil) := by
  obtain ⟨fd, h1, h2⟩ := F.ex
  exact pe_call0 h1 hr hg F.at_ F.kp h2 .nil hx hdb
/-! ### the module's constants -/
theorem ug_str {z : Str} (h : ∃ t, X.mg x = some (.str z t)) (hg : Gl X x) (hd : (x == ("__debug__" : Str)) = false := by decide) : PE X (.Name x pos) (tC (.str z)) := by
  obtain ⟨t, h⟩ := h
  exact pe_glob hg h ⟨t, rfl⟩ hd
theorem ug_int {z : Int} (h : ∃ t, X.mg x = some (.int z t)) (hg : Gl X x) (hd : (x == ("__debug__" : Str)) = false := by decide) : PE X (.Name x pos) (tC (.int z)) := by
  obtain ⟨t, h⟩ := h
  exact pe_glob hg h ⟨t, rfl⟩ hd
theorem ug_ref {z : Addr} (h : X.mg x = some (.ref z)) (hg : Gl X x) (hd : (x == ("__debug__" : Str)) = false := by decide) : PE X (.Name x pos) (tC (.ref z)) :=
  pe_glob hg h rfl hd
theorem hu65 {k : Nat} {A : Around} (r : Room k A) : A.units + 65 < cLine := by have := r.un; omega
theorem ugn (i : Nat) (nd : X.N.Nodup) (hi : X.N[i]? = some x := by rfl) (hx : Loc X.env.scope x := by first | exact Or.inl rfl | exact Or.inr rfl)
    (hf : X.fn x = true ∨ X.env.scope.names.lookup x = some .local := by first | exact .inl rfl | exact .inr rfl | assumption) : PG X (.Name x pos) (gName i) := pg_name nd hi hx hf
theorem us_set (i : Nat) {te : TE} {pos' : Pos} (nd : X.N.Nodup) (he : PE X e te) (hi : X.N[i]? = some x := by rfl) (hx : Loc X.env.scope x := by first | exact Or.inl rfl | exact Or.inr rfl)
    (hs : swapsWith e (some (.Name x pos')) pos.line X.env = pure false := by rfl) (hf : X.fn x = true ∨ X.env.scope.names.lookup x = some .local := by first | exact .inl rfl | exact .inr rfl | assumption) :
    PS X (.Assign [.Name x pos'] e pos) (tAsg te (gName i)) := ps_set nd hi hx he hs hf
abbrev FnP (K : PySem.W.Frag) (x qual : Str) (st : Stmt) (f : Addr) (fd : FuncData) : Prop := FunD K x qual (defArgs st) (defBody st) (defScope st) [] [] f fd
abbrev CalL (P : Program) (w : World) (K : PySem.W.Frag) (mg : Str → Option Value) (base : Heap) (x : Str) (k : Nat) (ps : List Str) (sp : Sp) : Prop := Cal P w K mg base CX0 x k ps sp
def prm {α : Type} (d : α) (perm : List Nat) (zs : List α) : List α := perm.map fun i => zs.getD i d
theorem prm_rel {zs : List V} {ws : List Value} (r : Vals zs ws) : ∀ perm : List Nat, Vals (prm V.non perm zs) (prm Value.none perm ws)
  | [] => .nil
  | i :: l => by
    refine .cons ?_ (prm_rel r l)
    show RelV (zs.getD i V.non) (ws.getD i Value.none)
    rw [List.getD_eq_getElem?_getD, List.getD_eq_getElem?_getD]
    cases q : zs[i]? with
    | none => rw [r.none_of q]; rfl
    | some v =>
      obtain ⟨u, h1, h2⟩ := r.get q
      rw [h1]
      exact h2
/-- a call by keywords alone -/
structure CalK (P : Program) (w : World) (K : PySem.W.Frag) (mg : Str → Option Value) (base : Heap) (x : Str) (k : Nat) (ps ks : List Str) (perm : List Nat) (sp : Sp) : Prop where
  ex : ∃ fd, FnOk P w K mg base CX0 k (He.ga K x) fd ps sp ∧ ∀ (s : Shared) (ws : List Value), ws.length = ks.length → BindsTo s fd ⟨[], ks.zip ws⟩ (ps.zip (prm .none perm ws))
  at_ : mg x = some (.ref (He.ga K x))
  kp : PySem.W.keepIn K (.ref (He.ga K x)) = true
theorem bindsKA {K : PySem.W.Frag} {qual : Str} {params : Arguments} {body : List Stmt} {scope : Scope} {f : Addr} {fd : FuncData} {ks : List Str} {perm : List Nat} (F : FunD K x qual params body scope [] [] f fd)
    (h : ∀ (kV doc pm : Value) (an : Option Addr) (cdv ct : Value) (ws : List Value), ws.length = ks.length → bindArgs (PySem.W.fnOf x qual params body scope .none kV doc pm an cdv ct) ⟨[], ks.zip ws⟩ = pure (ps.zip (prm .none perm ws)))
    (s : Shared) (ws : List Value) (hl : ws.length = ks.length) : BindsTo s fd ⟨[], ks.zip ws⟩ (ps.zip (prm .none perm ws)) := by
  obtain ⟨oc, od, dV, kV, doc, pm, an, cdv, ct, osl, rfl, lk, hcd, hD, hK⟩ := F.ex
  rcases hD with ⟨_, rfl⟩ | ⟨e, _⟩
  · exact .of_eq (h kV doc pm an cdv ct ws hl)
  · exact absurd rfl e
def tCallP (perm : List Nat) (sp : Sp) (E : XK) (t : TA) : TE := fun σ H Q => t σ H fun zs H1 => zs.length = perm.length ∧ sp (prm .non perm zs) H1 Q E
theorem ucallk0 {ks : List Str} {perm : List Nat} {kws : List Keyword} {tk : TA} (F : CalK X.prog X.w X.K X.mg X.base x k ps ks perm sp) (hr : Room k X.A) (hg : Gl X x) (hx : Passes CX0 X E) (hkw : PK X kws tk)
    (hpk : perm.length = ks.length := by rfl) (hall : (backToKw pos (keywordEach kws X.env)).all (·.1.isSome) = true := by rfl) (hks : (backToKw pos (keywordEach kws X.env)).filterMap (·.1) = ks := by rfl)
    (hdb : (x == ("__debug__" : Str)) = false := by decide) (hpl : ((backTo pos (starEach [] X.env)).any (·.1) || (backToKw pos (keywordEach kws X.env)).any (·.1.isNone)) = false := by rfl) :
    PE X (.Call (.Name x p) [] kws pos) (tCallP perm sp E tk) := by
  obtain ⟨fd, F1, F2⟩ := F.ex
  refine ⟨fun pins s σ H Q I h => ?_⟩
  refine wpAny_Call_Name_kw (ld_glob I hg F.at_ ?_ hdb)
  refine PySem.W.callWith_KW0 (h₀ := X.base) I.ok.mod.kin F.kp hall (thn (hkw.run pos pins s σ H _ I h) fun ws s2 z => ?_) hpl
  obtain ⟨zs, H2, I2, rz, hl, q2⟩ := z
  refine ⟨I2.kIn, ?_⟩
  rw [hks]
  have r2 := prm_rel rz perm
  refine wpAny_call (codeAny_mono (F1.run X.A X.stack s2 H2 ⟨[] ++ [], ks.zip ws⟩ _ _ Q E hr I2.env0 (F2 s2 ws (by rw [← rz.length, hl, hpk])) r2 q2) fun r s' hq => ?_)
  cases r with
  | error e => exact hx pins σ H2 s2 e s' I2 hq
  | ok fl =>
    cases fl with
    | ret u => exact I2.after hq
    | next => exact False.elim hq
    | brk => exact False.elim hq
    | cont => exact False.elim hq
def rJoin (K : PySem.W.Frag) : V → List V → Hp → VK → Prop := fun x xs H Q => ∃ a p, ∃ ys : List Str, x = .str a ∧ xs = [.ref p] ∧ (SqL K H p (ys.map V.str) ∨ SqT K H p (ys.map V.str)) ∧
  (ys.map (·.length)).sum + ys.length * a.length ≤ 16777216 ∧ Q (.str (Txt.join a ys)) H
end
end GW

namespace GW
open PySem L2
/-! ### branches -/
theorem brd {b : Bool} {A B : Prop} (h1 : b = true → A) (h2 : b = false → B) : Decidable.rec (motive := fun _ => Prop) (fun _ => B) (fun _ => A) (instDecidableEqBool b true) := by
  cases b with
  | true => exact h1 rfl
  | false => exact h2 rfl
theorem brD {p : Prop} [Decidable p] {A B : Prop} (h1 : p → A) (h2 : ¬ p → B) : Decidable.rec (motive := fun _ => Prop) (fun _ => B) (fun _ => A) (instDecidableEqBool (decide p) true) :=
  brd (fun h => h1 (of_decide_eq_true h)) fun h => h2 (of_decide_eq_false h)
theorem brN {p : Prop} [Decidable p] {A B : Prop} (h1 : ¬ p → A) (h2 : p → B) : Decidable.rec (motive := fun _ => Prop) (fun _ => B) (fun _ => A) (instDecidableEqBool (!decide p) true) :=
  brd (fun h => h1 (by simpa using h)) fun h => h2 (by simpa using h)
/-! ### heaps -/
theorem same_upd {H H' : Hp} {p : Addr} {o : HO} (e : Same H H') (n : H p = none) : Same H (upd H' p o) := fun b u h => by
  rw [upd_ne (ne_of_none h n)]
  exact e b u h
theorem same_new {H : Hp} {p : Addr} {o : HO} (n : H p = none) : Same H (L2.upd H p o) := same_upd (Same.refl H) n
theorem same_seqT {K : PySem.W.Frag} {H H' : Hp} {a : Addr} {xs : List V} (e : Same H H') (h : SqT K H a xs) : SqT K H' a xs := by
  rcases h with (h | ⟨o, h⟩) | h
  · exact .inl (.inl (e _ _ h))
  · exact .inl (.inr ⟨o, e _ _ h⟩)
  · exact .inr h
theorem same_sq {K : PySem.W.Frag} {H H' : Hp} {a : Addr} {xs : List V} (e : Same H H') (h : Sq K H a xs) : Sq K H' a xs := h.elim (fun h => .inl (e.seq h)) fun h => .inr (same_seqT e h)
theorem upd_none {H : Hp} {p q : Addr} {o : HO} (h : upd H p o q = none) : H q = none ∧ q ≠ p := by
  by_cases e : q = p
  · subst e; rw [upd_same] at h; cases h
  · rw [upd_ne e] at h; exact ⟨h, e⟩
/-- all but p stands as it stood -/
def Kp (p : Addr) (H H' : Hp) : Prop := ∀ b o, b ≠ p → H b = some o → H' b = some o
theorem Kp.refl {p : Addr} (H : Hp) : Kp p H H := fun _ _ _ h => h
theorem Kp.trans {p : Addr} {H H1 H2 : Hp} (a : Kp p H H1) (b : Kp p H1 H2) : Kp p H H2 := fun c o n h => b c o n (a c o n h)
theorem same_kp {p : Addr} {H H' : Hp} (e : Same H H') : Kp p H H' := fun b o _ h => e b o h
theorem Kp.upd {p : Addr} {H H' : Hp} {o : HO} (e : Kp p H H') : Kp p H (upd H' p o) := fun b u n h => by
  rw [upd_ne n]
  exact e b u n h
theorem Kp.new {p q : Addr} {H H' : Hp} {o : HO} (e : Kp p H H') (n : H q = none) : Kp p H (L2.upd H' q o) := fun b u hn h => by
  rw [upd_ne (ne_of_none h n)]
  exact e b u hn h
/-- an object written: what is known of the heap behind it -/
theorem heapS {P : Hp → Prop} {H : Hp} {p : Addr} {o : HO} (h : ∀ H1 : Hp, H1 p = some o → Kp p H H1 → P H1) : P (upd H p o) := h _ upd_same (Kp.upd (Kp.refl H))
/-- a new object laid -/
theorem heapN {P : Hp → Prop} {H : Hp} {p : Addr} {o : HO} (n : H p = none) (h : ∀ H1 : Hp, H1 p = some o → Same H H1 → P H1) : P (upd H p o) := h _ upd_same (same_new n)
theorem heapS2 {α : Type} {P : Hp → α → Prop} {Q : α} {H : Hp} {p : Addr} {o : HO} (h : ∀ H1 : Hp, H1 p = some o → Kp p H H1 → P H1 Q) : P (upd H p o) Q := h _ upd_same (Kp.upd (Kp.refl H))
theorem heapN2 {α : Type} {P : Hp → α → Prop} {Q : α} {H : Hp} {p : Addr} {o : HO} (n : H p = none) (h : ∀ H1 : Hp, H1 p = some o → Same H H1 → P H1 Q) : P (upd H p o) Q := h _ upd_same (same_new n)
/-! ### comprehensions that change nothing -/
section
variable {J : It} {G : Hp → Prop} {Y : Nat → Hp → V → Hp → Prop} {xs : List V}
theorem lc_fm (w : Walk J xs.length G Y) (f : V → Option V) {g : TG} {tt : TT} {te : TE} {vs : List Nat} {σ : St} {H1 : Hp} {D : Addr} {Qd : Hp → Prop} (hD : H1 D = none) (hn : xs.length ≤ sizeLine)
    (hy : ∀ i H x H', i < xs.length → Y i H x H' → H' = H ∧ xs[i]? = some x) (hG : ∀ H, Same H1 H → G H)
    (hs : ∀ (x : V) (H : Hp) (Q : V → Hp → Prop) (R : Hp → Prop), x ∈ xs → Same H1 H → (∀ H' y, Same H H' → f x = some y → Q y H') → (∀ H', Same H H' → f x = none → R H') →
      g x (wipe σ vs) H fun σ2 H2 => wipe σ2 vs = wipe σ vs ∧ tt σ2 H2 fun b H3 => if b = true then te σ2 H3 Q else R H3)
    (hd : ∀ H, H D = some (.lst (xs.filterMap f)) → Same H1 H → Qd H) :
    ∃ W : Nat → Nat → Hp → Prop, (∃ m, W 0 m (upd H1 D (.lst []))) ∧ ∀ i m H, W i m H →
      (J.stop i H ∧ Qd H) ∨ (J.go i H ∧ ∃ Nx : Hp → Prop, (∀ H', Nx H' → ∃ m', m' < m ∧ W (i + 1) m' H') ∧ ∀ x H', J.yld i H x H' → g x (wipe σ vs) H' fun σ2 H2 => wipe σ2 vs = wipe σ vs ∧ tt σ2 H2 fun b H3 =>
        if b = true then te σ2 H3 fun y H4 => ∃ acc, H4 D = some (.lst acc) ∧ acc.length < sizeLine ∧ Nx (upd H4 D (.lst (acc ++ [y]))) else Nx H3) := by
  refine lc_it w (fun i H => H D = some (.lst ((xs.take i).filterMap f)) ∧ Same H1 H) ⟨upd_same, same_new hD⟩ (fun i H _ p => hG H p.2) ?_ fun H p => hd H (by rw [p.1, List.take_length]) p.2
  intro i x H H' hi p y
  obtain ⟨rfl, hx⟩ := hy i H x H' hi y
  obtain ⟨p1, p2⟩ := p
  obtain ⟨hlt, ex⟩ := List.getElem?_eq_some_iff.mp hx
  have et : xs.take (i + 1) = xs.take i ++ [x] := by rw [List.take_succ, hx] <;> rfl
  refine hs x H' _ _ (List.mem_of_getElem? hx) p2 (fun H2 y s2 e => ⟨_, s2 _ _ p1, ?_, ?_, ?_⟩) fun H2 s2 e => ⟨?_, p2.trans s2⟩
  · have h1 : ((xs.take i).filterMap f).length ≤ (xs.take i).length := List.length_filterMap_le _ _
    rw [List.length_take] at h1
    omega
  · rw [upd_same, et, List.filterMap_append, List.filterMap_cons, e] <;> rfl
  · exact same_upd (p2.trans s2) hD
  · rw [s2 _ _ p1, et, List.filterMap_append, List.filterMap_cons, e, List.filterMap_nil, List.append_nil]
theorem signs_at {z : Str} : ∀ (i : Nat) (H : Hp) (x : V) (H' : Hp), i < (z.cps.toList.map fun c => V.str ⟨#[c]⟩).length → (H' = H ∧ ∃ c, z.cps[i]? = some c ∧ x = .str ⟨#[c]⟩) →
    H' = H ∧ (z.cps.toList.map fun c => V.str ⟨#[c]⟩)[i]? = some x := by
  rintro i H x H' _ ⟨rfl, c, h, rfl⟩
  refine ⟨rfl, ?_⟩
  rw [List.getElem?_map]
  simp [h]
theorem walk_signs {z : Str} : Walk (Its z) (z.cps.toList.map fun c => V.str ⟨#[c]⟩).length (fun _ => True) (fun i H v H' => H' = H ∧ ∃ c, z.cps[i]? = some c ∧ v = .str ⟨#[c]⟩) := by
  have h := walk_str (z := z)
  have e : (z.cps.toList.map fun c => V.str ⟨#[c]⟩).length = z.cps.size := by simp
  rw [e]
  exact h
theorem at_YAt {xs : List V} : ∀ (i : Nat) (H : Hp) (x : V) (H' : Hp), i < xs.length → YAt xs i H x H' → H' = H ∧ xs[i]? = some x := fun _ _ _ _ _ h => h
end
end GW
namespace GW
open PySem L2
/-! ### data -/
theorem dpAll_ints {K : PySem.W.Frag} {H : Hp} : ∀ ns : List Int, DpAll K H (ns.map V.int) (ns.map PyData.int)
  | [] => .nil
  | n :: ns => .cons (.int n) (dpAll_ints ns)
theorem lay_ints : ∀ ns : List Int, PyData.canLayAll0 (ns.map PyData.int) = true
  | [] => by simp [PyData.canLayAll0]
  | n :: ns => by simp [PyData.canLayAll0, PyData.canLay0, lay_ints ns]
theorem dep_ints : ∀ ns : List Int, PyData.depthAll (ns.map PyData.int) = 0
  | [] => by simp [PyData.depthAll]
  | n :: ns => by simp [PyData.depthAll, PyData.depth, dep_ints ns]
theorem shp_lst {ds : List PyData} (h1 : PyData.canLayAll0 ds = true) (h2 : PyData.depthAll ds ≤ 63) : SeqAt.shaped (.list ds) = true := by
  unfold SeqAt.shaped
  simp [PyData.canLay0, PyData.depth, h1]
  omega
theorem shp_tup {ds : List PyData} (h1 : PyData.canLayAll0 ds = true) (h2 : PyData.depthAll ds ≤ 63) : SeqAt.shaped (.tuple ds) = true := by
  unfold SeqAt.shaped
  simp [PyData.canLay0, PyData.depth, h1]
  omega
theorem shp_ints (ns : List Int) : SeqAt.shaped (.list (ns.map PyData.int)) = true := shp_lst (lay_ints ns) (by rw [dep_ints]; omega)
theorem shp_nil : SeqAt.shaped (.list []) = true := shp_ints []
theorem eqv_nil (ds : List PyData) : PyData.eqv (.list ds) (.list []) = ds.isEmpty := by
  cases ds <;> simp [PyData.eqv, PyData.eqvAll]
end GW
namespace GW
open PySem L2
/-! ### where ways meet -/
theorem asgG {te : TE} {g : TG} {rest : TS} {D : Ends} {σ : St} {H : Hp} (R : V → Hp → Prop) (h : ∀ Q' : VK, (∀ v H', R v H' → Q' v H') → te σ H Q') (h2 : ∀ v H', R v H' → g v σ H' (rest D)) : tSeq (tAsg te g) rest D σ H := h _ h2
theorem stG {t rest : TS} {D : Ends} {σ : St} {H : Hp} (R : St → Hp → Prop) (h : ∀ k : St → Hp → Prop, (∀ σ' H', R σ' H' → k σ' H') → t { D with nx := k } σ H) (h2 : ∀ σ' H', R σ' H' → rest D σ' H') : tSeq t rest D σ H := h _ h2
end GW
namespace GW
open PySem L2
theorem mVar_of {i : Nat} {σ : St} {H : Hp} {Q : VK} {v : V} (h : σ[i]? = some (some v)) (q : Q v H) : mVar i σ H Q := by
  unfold mVar
  rw [h]
  exact q
end GW

namespace GW
open PySem PyProof.Rows L2
/-! ### what the checks tell -/
def isIntV : V → Bool
  | .int _ => true
  | _ => false
/-- a value of a known kind -/
def Kn (K : PySem.W.Frag) (H : Hp) : V → Prop
  | .non => True
  | .bl _ => True
  | .int _ => True
  | .str _ => True
  | .ref a => ∃ t, AtT K H a t
  | _ => False
def letL : List Nat := ("abcdefghijklmnopqrstuvwxyz" : Str).cps.toList
def sigL : List Nat := ("abcdefghijklmnopqrstuvwxyz0123456789." : Str).cps.toList
def nameL (l : List Nat) : Bool := decide (1 ≤ l.length) && decide (l.length ≤ 16) && (decide (l.headD 0 ∈ letL) && l.all fun c => decide (c ∈ sigL))
def isNameV : V → Bool
  | .str z => nameL z.cps.toList
  | _ => false
def withinV (lo hi : Int) : V → Bool
  | .int i => decide (lo ≤ i) && decide (i ≤ hi)
  | _ => false
def sp_is_integer (K : PySem.W.Frag) : Sp := fun vs H Q _ => ∃ v, vs = [v] ∧ Kn K H v ∧ Q (.bl (isIntV v)) H
def sp_is_within (K : PySem.W.Frag) : Sp := fun vs H Q _ => ∃ v lo hi, vs = [v, .int lo, .int hi] ∧ Kn K H v ∧ Q (.bl (withinV lo hi v)) H
def sp_is_name (K : PySem.W.Frag) : Sp := fun vs H Q _ => ∃ v, vs = [v] ∧ Kn K H v ∧ (∀ z, v = .str z → z.length ≤ sizeLine) ∧ ∀ H', Same H H' → Q (.bl (isNameV v)) H'
/-! ### the pen -/
def LIM : Int := 1000000
/-- the pen stands at p, its cells at c, at most n of them drawn -/
structure Pen (H : Hp) (p c : Addr) (n : Int) : Prop where
  ex : ∃ (ns : List Int) (at_ left : Int), H p = some (.lst [.ref c, .int at_, .int left]) ∧ H c = some (.lst (ns.map V.int)) ∧ 0 ≤ at_ ∧ at_ ≤ n ∧ 0 ≤ left ∧ ns.length ≤ 63
def sp_law_pen (K : PySem.W.Frag) : Sp := fun vs H Q _ => ∃ (a : Addr) (ns : List Int), vs = [.ref a] ∧ SqL K H a (ns.map V.int) ∧ ns.length ≤ 63 ∧ ∀ p c H', H p = none → H c = none → Same H H' → Pen H' p c 0 → Q (.ref p) H'
def sp_law_draw (K : PySem.W.Frag) : Sp := fun vs H Q _ => ∃ p c m n, vs = [.ref p, .int m] ∧ Pen H p c n ∧ n + 1 ≤ LIM ∧ 0 < m ∧ m < 1073741824 ∧
  ∀ r H', 0 ≤ r → r < m → Kp p H H' → Pen H' p c (n + 1) → Q (.int r) H'
def sp_law_is_name (K : PySem.W.Frag) : Sp := fun vs H Q _ => ∃ z, vs = [.str z] ∧ z.length ≤ 1000 ∧ (∀ c ∈ z.cps.toList, c < 128) ∧ ∀ H', Same H H' → Q (.bl (nameL z.cps.toList)) H'
def sp_law_pick (K : PySem.W.Frag) : Sp := fun vs H Q _ => ∃ p c a xs n, vs = [.ref p, a] ∧ True ∧ Pen H p c n ∧ n + 1 ≤ LIM ∧ xs ≠ [] ∧ xs.length ≤ 1000 ∧
  ((∃ b, a = .ref b ∧ b ≠ p ∧ Sq K H b xs) ∨ ∃ z : Str, a = .str z ∧ xs = z.cps.toList.map fun c => V.str ⟨#[c]⟩) ∧ ∀ x H', x ∈ xs → Kp p H H' → Pen H' p c (n + 1) → Q x H'
def sp_law_text (K : PySem.W.Frag) : Sp := fun vs H Q _ => ∃ p c n, vs = [.ref p] ∧ Pen H p c n ∧ n + 30 ≤ LIM ∧ ∀ z H', z.length ≤ 40 → (∀ c ∈ z.cps.toList, c < 128) → Kp p H H' → Pen H' p c (n + 30) → Q (.str z) H'
def sp_law (K : PySem.W.Frag) : Sp := fun vs H Q _ => ∃ (a : Addr) (ns : List Int), vs = [.ref a] ∧ SqL K H a (ns.map V.int) ∧ ns.length ≤ 63 ∧ ∀ H', Q (.bl true) H'
end GW

namespace GW
section
open PySem PyProof.Rows L2
def top (i : Nat) : Stmt := PySem.Challenge.pw_givesway_k01_checks_of_any_values.main.body.getD i (.Pass ⟨0, 0, 0, 0⟩)
abbrev s_is_integer : Stmt := top 4
abbrev n_is_integer : List Str := ["value"]
theorem sc_is_integer : FnScope n_is_integer ["value"] (defScope s_is_integer) := ⟨rfl, rfl, rfl, by decide +kernel, rfl, by decide +kernel, by decide +kernel⟩
def t_is_integer (K : PySem.W.Frag) : TS := (tRet (mAnd (tCB (rIs1 K .int) (tCons (mVar 0) (tCons (tC (.ty "int")) tNil))) (mNot (tCB (rIs1 K .bl) (tCons (mVar 0) (tCons (tC (.ty "bool")) tNil))))))
abbrev s_is_name : Stmt := top 6
abbrev n_is_name : List Str := ["value", "sign"]
theorem sc_is_name : FnScope n_is_name ["value"] (defScope s_is_name) := ⟨rfl, rfl, rfl, by decide +kernel, rfl, by decide +kernel, by decide +kernel⟩
def t_is_name (K : PySem.W.Frag) : TS := (tSeq (tIfS (tOr (tNot (mTest (tCB (rIs1 K .str) (tCons (mVar 0) (tCons (tC (.ty "str")) tNil))))) (tNot (mTest (mChain oLe oLe (tC (.int 1)) (tCB (rLenU K) (tCons (mVar 0) tNil)) (tC (.int 16)))))) (tRet (tC (.bl false))) tNext)
    (tRet (mAnd (tOp (oIn K false) (tOp (oIx K) (mVar 0) (tC (.int 0))) (tC (.str "abcdefghijklmnopqrstuvwxyz"))) (tCB (rAllU K) (tCons (tLc (iU K (mVar 0)) (gName 1) tYes (tOp (oIn K false) (mVar 1) (tC (.str "abcdefghijklmnopqrstuvwxyz0123456789."))) [1]) tNil)))))
abbrev s_law_pen : Stmt := top 8
abbrev n_law_pen : List Str := ["script"]
theorem sc_law_pen : FnScope n_law_pen ["script"] (defScope s_law_pen) := ⟨rfl, rfl, rfl, by decide +kernel, rfl, by decide +kernel, by decide +kernel⟩
def t_law_pen (K : PySem.W.Frag) : TS := (tRet (tLst (tCons (tCB (rListU K) (tCons (tSl (oSl K) (mVar 0) tNoPart (mPart (tC (.int 63)))) tNil)) (tCons (tC (.int 0)) (tCons (tC (.int 0)) tNil)))))
abbrev s_law_draw : Stmt := top 9
abbrev n_law_draw : List Str := ["pen", "many", "digit", "at", "cell", "great", "mixed"]
theorem sc_law_draw : FnScope n_law_draw ["pen", "many"] (defScope s_law_draw) := ⟨rfl, rfl, rfl, by decide +kernel, rfl, by decide +kernel, by decide +kernel⟩
def t_law_draw (K : PySem.W.Frag) : TS := (tSeq (tIfS (mTest (tOp oGt (tOp (oIx K) (mVar 0) (tC (.int 2))) (tC (.int 0)))) (tSeq (tAsg (tOp oMod (tCB rIntU (tCons (tOp (oIx K) (mVar 0) (tC (.int 2))) tNil)) (mVar 1)) (gName 2))
    (tSeq (tAsg (tOp oDiv (tCB rIntU (tCons (tOp (oIx K) (mVar 0) (tC (.int 2))) tNil)) (mVar 1)) (gSub (mVar 0) (tC (.int 2)) (oSet K)))
    (tRet (mVar 2)))) tNext)
    (tSeq (tAsg (tOp (oIx K) (mVar 0) (tC (.int 1))) (gName 3))
    (tSeq (tAsg (tOp (oAdd K) (mVar 3) (tC (.int 1))) (gSub (mVar 0) (tC (.int 1)) (oSet K)))
    (tSeq (tAsg (tIf (mTest (tOp (oEq K) (tOp (oIx K) (mVar 0) (tC (.int 0))) (tLst tNil))) (tOp (oAdd K) (tOp (oMul K) (tC (.int 50423)) (mVar 3)) (tC (.int 1867))) (tOp (oIx K) (tOp (oIx K) (mVar 0) (tC (.int 0))) (tOp oMod (tCB rIntU (tCons (mVar 3) tNil)) (tCB (rLenU K) (tCons (tOp (oIx K) (mVar 0) (tC (.int 0))) tNil))))) (gName 4))
    (tSeq (tIfS (tAnd (mTest (tOp oLt (mVar 3) (tCB (rLenU K) (tCons (tOp (oIx K) (mVar 0) (tC (.int 0))) tNil)))) (mTest (tOp oGe (tCB rAbsU (tCons (mVar 4) tNil)) (tOp oPow (tC (.int 10)) (tC (.int 18)))))) (tSeq (tAsg (tOp (oAdd K) (tOp (oMul K) (tC (.int 2)) (tOp oSub (tCB rAbsU (tCons (mVar 4) tNil)) (tOp oPow (tC (.int 10)) (tC (.int 18))))) (tCB rIntU (tCons (tOp oLt (mVar 4) (tC (.int 0))) tNil))) (gName 5))
    (tSeq (tAsg (tOp oDiv (tCB rIntU (tCons (mVar 5) tNil)) (mVar 1)) (gSub (mVar 0) (tC (.int 2)) (oSet K)))
    (tRet (tOp oMod (tCB rIntU (tCons (mVar 5) tNil)) (mVar 1))))) tNext)
    (tSeq (tAsg (tOp oMod (tCB rIntU (tCons (tOp oPow (tOp (oAdd K) (tOp (oAdd K) (tOp oMod (tCB rIntU (tCons (mVar 4) tNil)) (tC (.int 2147483549))) (tOp (oMul K) (tC (.int 30557)) (mVar 3))) (tC (.int 8419))) (tC (.int 3))) tNil)) (tC (.int 2147483647))) (gName 6))
    (tSeq (tAsg (tOp oMod (tCB rIntU (tCons (tOp oPow (tOp (oAdd K) (tOp (oAdd K) (tOp (oMul K) (mVar 6) (tOp (oAdd K) (tOp (oMul K) (tC (.int 2)) (mVar 3)) (tC (.int 217)))) (tOp (oMul K) (tOp (oMul K) (tC (.int 6101)) (mVar 3)) (mVar 3))) (tC (.int 59))) (tC (.int 5))) tNil)) (tC (.int 2147483587))) (gName 6))
    (tRet (tOp oMod (tCB rIntU (tCons (tOp oDiv (mVar 6) (tC (.int 32))) tNil)) (mVar 1))))))))))
abbrev s_law_is_name : Stmt := top 13
abbrev n_law_is_name : List Str := ["text", "letters", "sign"]
theorem sc_law_is_name : FnScope n_law_is_name ["text"] (defScope s_law_is_name) := ⟨rfl, rfl, rfl, by decide +kernel, rfl, by decide +kernel, by decide +kernel⟩
def t_law_is_name (K : PySem.W.Frag) : TS := (tSeq (tAsg (tC (.str "abcdefghijklmnopqrstuvwxyz")) (gName 1))
    (tSeq (tIfS (tOr (mTest (tOp (oEq K) (tCB (rLenU K) (tCons (mVar 0) tNil)) (tC (.int 0)))) (tOr (mTest (tOp oGt (tCB (rLenU K) (tCons (mVar 0) tNil)) (tC (.int 16)))) (mTest (tOp (oIn K true) (tOp (oIx K) (mVar 0) (tC (.int 0))) (mVar 1))))) (tRet (tC (.bl false))) tNext)
    (tRet (tOp (oEq K) (tLc (iU K (mVar 0)) (gName 2) (mTest (tOp (oIn K true) (mVar 2) (tOp (oAdd K) (mVar 1) (tC (.str "0123456789."))))) (mVar 2) [2]) (tLst tNil)))))
abbrev s_is_within : Stmt := top 5
abbrev n_is_within : List Str := ["value", "least", "most"]
theorem sc_is_within : FnScope n_is_within ["value", "least", "most"] (defScope s_is_within) := ⟨rfl, rfl, rfl, by decide +kernel, rfl, by decide +kernel, by decide +kernel⟩
def t_is_within (K : PySem.W.Frag) : TS := (tRet (mAnd (tCall (sp_is_integer K) [] E0 (tCons (mVar 0) tNil)) (mChain oLe oLe (mVar 1) (mVar 0) (mVar 2))))
abbrev s_law_pick : Stmt := top 10
abbrev n_law_pick : List Str := ["pen", "some"]
theorem sc_law_pick : FnScope n_law_pick ["pen", "some"] (defScope s_law_pick) := ⟨rfl, rfl, rfl, by decide +kernel, rfl, by decide +kernel, by decide +kernel⟩
def t_law_pick (K : PySem.W.Frag) : TS := (tRet (tOp (oIx K) (mVar 1) (tCall (sp_law_draw K) [] E0 (tCons (mVar 0) (tCons (tCB (rLenU K) (tCons (mVar 1) tNil)) tNil)))))
abbrev s_law_text : Stmt := top 12
abbrev n_law_text : List Str := ["pen", "signs", "first", "text", "at", "turn"]
theorem sc_law_text : FnScope n_law_text ["pen"] (defScope s_law_text) := ⟨rfl, rfl, rfl, by decide +kernel, rfl, by decide +kernel, by decide +kernel⟩
def t_law_text (K : PySem.W.Frag) : TS := (tSeq (tAsg (tTup (tCons (tC (.str "abcxyz0189.")) (tCons (tCall (sp_law_pick K) [] E0 (tCons (mVar 0) (tCons (tLst (tCons (tC (.str "a")) (tCons (tC (.str "z")) (tCons (tC (.str "m")) (tCons (tC (.str "m")) (tCons (tC (.str "0")) (tCons (tC (.str "9")) (tCons (tC (.str ".")) (tCons (tC (.str "A")) (tCons (tC (.str "_")) (tCons (tC (.str "")) (tCons (tC (.str "-")) (tCons (tC (.str " ")) tNil))))))))))))) tNil))) tNil))) (gTup K 2 (gCons (gName 1) (gCons (gName 2) gNil))))
    (tSeq (tAsg (tOp (oAdd K) (mVar 2) (tM1 (rJoin K) (tC (.str "")) (tLc (iRng1 (tCons (tCall (sp_law_pick K) [] E0 (tCons (mVar 0) (tCons (tLst (tCons (tC (.int 0)) (tCons (tC (.int 1)) (tCons (tC (.int 2)) (tCons (tC (.int 5)) (tCons (tC (.int 14)) (tCons (tC (.int 15)) (tCons (tC (.int 16)) tNil)))))))) tNil))) tNil)) (gName 5) tYes (tCall (sp_law_pick K) [] E0 (tCons (mVar 0) (tCons (mVar 1) tNil))) [5]))) (gName 3))
    (tSeq (tIfS (mTest (tOp (oEq K) (tCall (sp_law_draw K) [] E0 (tCons (mVar 0) (tCons (tC (.int 4)) tNil))) (tC (.int 0)))) (tSeq (tAsg (tCall (sp_law_draw K) [] E0 (tCons (mVar 0) (tCons (tOp (oAdd K) (tCB (rLenU K) (tCons (mVar 3) tNil)) (tC (.int 1))) tNil))) (gName 4))
    (tAsg (tOp (oAdd K) (tOp (oAdd K) (tSl (oSl K) (mVar 3) tNoPart (mPart (mVar 4))) (tCall (sp_law_pick K) [] E0 (tCons (mVar 0) (tCons (tLst (tCons (tC (.str "A")) (tCons (tC (.str "_")) (tCons (tC (.str " ")) (tCons (tC (.str "-")) (tCons (tC (.str "\n")) (tCons (tC (.str "/")) (tCons (tC (.str ":")) (tCons (tC (.str "{")) (tCons (tC (.str "`")) (tCons (tC (.str ",")) tNil))))))))))) tNil)))) (tSl (oSl K) (mVar 3) (mPart (mVar 4)) tNoPart)) (gName 3))) tNext)
    (tRet (mVar 3)))))
abbrev s_law : Stmt := top 14
abbrev n_law : List Str := ["script", "pen", "turn", "text", "number", "least", "most", "odd"]
theorem sc_law : FnScope n_law ["script"] (defScope s_law) := ⟨rfl, rfl, rfl, by decide +kernel, rfl, by decide +kernel, by decide +kernel⟩
def t_law (K : PySem.W.Frag) : TS := (tSeq (tAsg (tCall (sp_law_pen K) [] E0 (tCons (mVar 0) tNil)) (gName 1))
    (tSeq (tFor (iRng1 (tCons (tC (.int 12)) tNil)) (gName 2) (tSeq (tAsg (tCall (sp_law_text K) [] E0 (tCons (mVar 1) tNil)) (gName 3))
    (tSeq (tIfS (tOr (mTest (tOp (oNe K) (tCB rReprS (tCons (tCall (sp_is_name K) [] E0 (tCons (mVar 3) tNil)) tNil)) (tCB rReprS (tCons (tCall (sp_law_is_name K) [] E0 (tCons (mVar 3) tNil)) tNil)))) (mTest (tOp (oNe K) (tCB rReprS (tCons (tCallP [0] (sp_is_name K) E0 (tCons (mVar 3) tNil)) tNil)) (tCB rReprS (tCons (tCall (sp_law_is_name K) [] E0 (tCons (mVar 3) tNil)) tNil))))) (tRet (tC (.bl false))) tNext)
    (tSeq (tPar 4 5 (tCons (tOp oSub (tCall (sp_law_draw K) [] E0 (tCons (mVar 1) (tCons (tC (.int 41)) tNil))) (tC (.int 20))) (tCons (tOp oSub (tCall (sp_law_draw K) [] E0 (tCons (mVar 1) (tCons (tC (.int 31)) tNil))) (tC (.int 15))) tNil)))
    (tSeq (tAsg (tOp oSub (tOp (oAdd K) (mVar 5) (tCall (sp_law_draw K) [] E0 (tCons (mVar 1) (tCons (tC (.int 12)) tNil)))) (tC (.int 2))) (gName 6))
    (tSeq (tIfS (tOr (mTest (tOp (oNe K) (tCB rReprS (tCons (tCall (sp_is_within K) [] E0 (tCons (mVar 4) (tCons (mVar 5) (tCons (mVar 6) tNil)))) tNil)) (tCB rReprS (tCons (mAnd (tOp oLe (mVar 5) (mVar 4)) (tOp oLe (mVar 4) (mVar 6))) tNil)))) (mTest (tOp (oIs true) (tCall (sp_is_within K) [] E0 (tCons (mVar 4) (tCons (mVar 4) (tCons (mVar 4) tNil)))) (tC (.bl true))))) (tRet (tC (.bl false))) tNext)
    (tIfS (tOr (mTest (tOp (oIs true) (tCallP [2, 1, 0] (sp_is_within K) E0 (tCons (mVar 6) (tCons (mVar 5) (tCons (tCB rBoolU (tCons (tOp oMod (mVar 4) (tC (.int 2))) tNil)) tNil)))) (tC (.bl false)))) (mTest (tOp (oIs true) (tCall (sp_is_integer K) [] E0 (tCons (mVar 4) tNil)) (tC (.bl true))))) (tRet (tC (.bl false))) tNext)))))))
    (tSeq (tFor (iU K (tLst (tCons (tC .non) (tCons (tC (.bl true)) (tCons (tC (.bl false)) (tCons (tC (.str "1")) (tCons (tC (.str "")) (tCons (tTup tNil) (tCons (tTup (tCons (tC (.int 1)) tNil)) (tCons (tLst (tCons (tC (.int 1)) tNil)) (tCons tDNewK (tCons (tDisp (((tC (.int 1)), (tC (.int 1))) :: [])) (tCons (tLst (tCons (tLst tNil) tNil)) tNil))))))))))))) (gName 7) (tSeq (tIfS (tOr (mTest (tOp (oIs true) (tCall (sp_is_integer K) [] E0 (tCons (mVar 7) tNil)) (tC (.bl false)))) (mTest (tOp (oIs true) (tCall (sp_is_within K) [] E0 (tCons (mVar 7) (tCons (tUn oNeg (tC (.int 5))) (tCons (tC (.int 5)) tNil)))) (tC (.bl false))))) (tRet (tC (.bl false))) tNext)
    (tIfS (tAnd (tNot (mTest (tCB (rIs1 K .str) (tCons (mVar 7) (tCons (tC (.ty "str")) tNil))))) (mTest (tOp (oIs true) (tCall (sp_is_name K) [] E0 (tCons (mVar 7) tNil)) (tC (.bl false))))) (tRet (tC (.bl false))) tNext)))
    (tRet (mAnd (tOp (oIs false) (tCallP [0] (sp_is_integer K) E0 (tCons (tOp oPow (tC (.int 10)) (tC (.int 40))) tNil)) (tC (.bl true))) (mAnd (tOp (oIs false) (tCall (sp_is_name K) [] E0 (tCons (tOp (oMul K) (tC (.str "a")) (tC (.int 16))) tNil)) (tC (.bl true))) (mAnd (tOp (oIs false) (tCall (sp_is_name K) [] E0 (tCons (tOp (oMul K) (tC (.str "a")) (tC (.int 17))) tNil)) (tC (.bl false))) (tOp (oIs false) (tCall (sp_is_name K) [] E0 (tCons (tLst (tCons (tC (.str "a")) tNil)) tNil)) (tC (.bl false))))))))))
structure Top (K : PySem.W.Frag) (mg : Str → Option Value) : Prop where
  d_is_integer : ∃ fd, FnP K "is_integer" "is_integer" s_is_integer (He.ga K "is_integer") fd
  d_is_name : ∃ fd, FnP K "is_name" "is_name" s_is_name (He.ga K "is_name") fd
  d_law_pen : ∃ fd, FnP K "_law_pen" "_law_pen" s_law_pen (He.ga K "_law_pen") fd
  d_law_draw : ∃ fd, FnP K "_law_draw" "_law_draw" s_law_draw (He.ga K "_law_draw") fd
  d_law_is_name : ∃ fd, FnP K "_law_is_name" "_law_is_name" s_law_is_name (He.ga K "_law_is_name") fd
  d_is_within : ∃ fd, FnP K "is_within" "is_within" s_is_within (He.ga K "is_within") fd
  d_law_pick : ∃ fd, FnP K "_law_pick" "_law_pick" s_law_pick (He.ga K "_law_pick") fd
  d_law_text : ∃ fd, FnP K "_law_text" "_law_text" s_law_text (He.ga K "_law_text") fd
  d_law : ∃ fd, FnP K "law" "law" s_law (He.ga K "law") fd
  a_is_integer : mg "is_integer" = some (.ref (He.ga K "is_integer"))
  a_is_name : mg "is_name" = some (.ref (He.ga K "is_name"))
  a_law_pen : mg "_law_pen" = some (.ref (He.ga K "_law_pen"))
  a_law_draw : mg "_law_draw" = some (.ref (He.ga K "_law_draw"))
  a_law_is_name : mg "_law_is_name" = some (.ref (He.ga K "_law_is_name"))
  a_is_within : mg "is_within" = some (.ref (He.ga K "is_within"))
  a_law_pick : mg "_law_pick" = some (.ref (He.ga K "_law_pick"))
  a_law_text : mg "_law_text" = some (.ref (He.ga K "_law_text"))
  a_law : mg "law" = some (.ref (He.ga K "law"))
  b_abs : mg "abs" = none
  b_all : mg "all" = none
  b_bool : mg "bool" = none
  b_int : mg "int" = none
  b_isinstance : mg "isinstance" = none
  b_len : mg "len" = none
  b_list : mg "list" = none
  b_range : mg "range" = none
  b_repr : mg "repr" = none
  b_str : mg "str" = none
  c_LETTERS : ∃ t, mg "LETTERS" = some (.str "abcdefghijklmnopqrstuvwxyz" t)
  c_MOST_SIGNS : ∃ t, mg "MOST_SIGNS" = some (.int 16 t)
  c_SIGNS : ∃ t, mg "SIGNS" = some (.str "abcdefghijklmnopqrstuvwxyz0123456789." t)
def facts : List He.Fa := [.glo "is_integer", .glo "is_name", .glo "_law_pen", .glo "_law_draw", .glo "_law_is_name", .glo "is_within", .glo "_law_pick", .glo "_law_text", .glo "law", .free "abs", .free "all", .free "bool", .free "int", .free "isinstance", .free "len", .free "list", .free "range", .free "repr", .free "str", .str "LETTERS" "abcdefghijklmnopqrstuvwxyz", .int "MOST_SIGNS" 16, .str "SIGNS" "abcdefghijklmnopqrstuvwxyz0123456789."]
def fns : List He.DefD := [⟨("is_integer", none), "is_integer", "is_integer", defArgs s_is_integer, defBody s_is_integer, defScope s_is_integer, [], []⟩,
  ⟨("is_name", none), "is_name", "is_name", defArgs s_is_name, defBody s_is_name, defScope s_is_name, [], []⟩,
  ⟨("_law_pen", none), "_law_pen", "_law_pen", defArgs s_law_pen, defBody s_law_pen, defScope s_law_pen, [], []⟩,
  ⟨("_law_draw", none), "_law_draw", "_law_draw", defArgs s_law_draw, defBody s_law_draw, defScope s_law_draw, [], []⟩,
  ⟨("_law_is_name", none), "_law_is_name", "_law_is_name", defArgs s_law_is_name, defBody s_law_is_name, defScope s_law_is_name, [], []⟩,
  ⟨("is_within", none), "is_within", "is_within", defArgs s_is_within, defBody s_is_within, defScope s_is_within, [], []⟩,
  ⟨("_law_pick", none), "_law_pick", "_law_pick", defArgs s_law_pick, defBody s_law_pick, defScope s_law_pick, [], []⟩,
  ⟨("_law_text", none), "_law_text", "_law_text", defArgs s_law_text, defBody s_law_text, defScope s_law_text, [], []⟩,
  ⟨("law", none), "law", "law", defArgs s_law, defBody s_law, defScope s_law, [], []⟩]
theorem top_mk {K : PySem.W.Frag} {h : Heap} {mg : Str → Option Value} (X : K.In h) (G : h.Ns mainGlobals mg) (c : He.SaysD facts fns K) : Top K mg :=
  ⟨c.def_ 0 rfl, c.def_ 1 rfl, c.def_ 2 rfl, c.def_ 3 rfl, c.def_ 4 rfl, c.def_ 5 rfl, c.def_ 6 rfl, c.def_ 7 rfl, c.def_ 8 rfl,
   He.glo_ok X G (c.fact 0 rfl),
   He.glo_ok X G (c.fact 1 rfl),
   He.glo_ok X G (c.fact 2 rfl),
   He.glo_ok X G (c.fact 3 rfl),
   He.glo_ok X G (c.fact 4 rfl),
   He.glo_ok X G (c.fact 5 rfl),
   He.glo_ok X G (c.fact 6 rfl),
   He.glo_ok X G (c.fact 7 rfl),
   He.glo_ok X G (c.fact 8 rfl),
   He.free_ok X G (c.fact 9 rfl),
   He.free_ok X G (c.fact 10 rfl),
   He.free_ok X G (c.fact 11 rfl),
   He.free_ok X G (c.fact 12 rfl),
   He.free_ok X G (c.fact 13 rfl),
   He.free_ok X G (c.fact 14 rfl),
   He.free_ok X G (c.fact 15 rfl),
   He.free_ok X G (c.fact 16 rfl),
   He.free_ok X G (c.fact 17 rfl),
   He.free_ok X G (c.fact 18 rfl),
   He.str_ok X G (c.fact 19 rfl),
   He.int_ok X G (c.fact 20 rfl),
   He.str_ok X G (c.fact 21 rfl)⟩

end
end GW
namespace GW
section
open PySem L2
local macro_rules | `(tactic| walk_at "side") => `(tactic| first | with_reducible rfl | with_reducible assumption | omega | rfl | exact ⟨_, rfl⟩ | exact Nat.le_of_ble_eq_true rfl | decide | (unfold CDiv; omega) | (unfold CMul; omega) | (unfold CPow; omega))
/-- the goal's head form, what stands beside closed -/
local macro_rules | `(tactic| walk_at "s") => `(tactic| ((conv => whnf); repeat (refine And.intro (by walk_at "side") ?_; (conv => whnf))))
local macro_rules | `(tactic| walk_at "if") => `(tactic| first | refine brD ?_ ?_ | refine brN ?_ ?_ | refine brd ?_ ?_)
/-- an item at a written place of a list that stands -/
local macro_rules | `(tactic| walk_at "ix") => `(tactic| (refine Or.inl ⟨_, _, _, rfl, Or.inl (SqL.of ‹_›), rfl, ?_⟩; walk_at "s"))
/-- a new object: its heap, its content, what stood -/
local macro_rules | `(tactic| walk_at "new") => `(tactic| first | refine heapN (by assumption) ?_ | refine heapN2 (by assumption) ?_)
local macro_rules | `(tactic| walk_at "put") => `(tactic| first | refine heapS ?_ | refine heapS2 ?_)
/-- a new tuple taken apart into two, three names -/
local macro_rules | `(tactic| walk_at "tup2") => `(tactic| (refine ⟨_, _, rfl, SqT.of ‹_›, rfl, _, _, rfl, ?_⟩; (conv => whnf); refine ⟨_, _, rfl, ?_⟩; walk_at "s"))
local macro_rules | `(tactic| walk_at "tup3") => `(tactic| (refine ⟨_, _, rfl, SqT.of ‹_›, rfl, _, _, rfl, ?_⟩; (conv => whnf); refine ⟨_, _, rfl, ?_⟩; (conv => whnf); refine ⟨_, _, rfl, ?_⟩; walk_at "s"))
local macro_rules | `(tactic| walk_at "tup4") => `(tactic| (refine ⟨_, _, rfl, SqT.of ‹_›, rfl, _, _, rfl, ?_⟩; (conv => whnf); refine ⟨_, _, rfl, ?_⟩; (conv => whnf); refine ⟨_, _, rfl, ?_⟩; (conv => whnf); refine ⟨_, _, rfl, ?_⟩; walk_at "s"))

theorem pu_is_integer {K : PySem.W.Frag} : ∀ vs H Q E, sp_is_integer K vs H Q E → t_is_integer K { nx := fun _ H' => Q .non H', rt := Q } (start n_is_integer vs) H := by
  rintro vs H Q E ⟨v, rfl, kn, q⟩
  walk_at "s"
  cases v with
  | ref a =>
    obtain ⟨t, kn⟩ := kn
    refine ⟨t, kn, ?_⟩
    cases kn <;> exact q
  | int i => walk_at "s"; exact q
  | bl i => walk_at "s"; exact q
  | str i => exact q
  | non => exact q
  | _ => exact kn.elim
theorem pu_is_within {K : PySem.W.Frag} : ∀ vs H Q E, sp_is_within K vs H Q E → t_is_within K { nx := fun _ H' => Q .non H', rt := Q } (start n_is_within vs) H := by
  rintro vs H Q E ⟨v, lo, hi, rfl, kn, q⟩
  walk_at "s"
  refine ⟨v, rfl, kn, ?_⟩
  cases v with
  | int i =>
    walk_at "s"
    walk_at "if"
    · intro h
      walk_at "s"
      simpa [withinV, h] using q
    · intro h
      walk_at "s"
      simpa [withinV, h] using q
  | _ => exact q
theorem atI_zero {α : Type} (c : α) (l : List α) : atI (c :: l) 0 = some c := atI_nat (xs := c :: l) (j := 0) rfl
theorem map_is_all (f : Nat → Bool) (l : List Nat) : ((l.map fun c => V.str ⟨#[c]⟩).filterMap fun v => match v with
    | .str ⟨⟨[c]⟩⟩ => some (V.bl (f c))
    | _ => none) = (l.map f).map V.bl := by
  induction l with
  | nil => rfl
  | cons a l ih => rw [List.map_cons, List.filterMap_cons, List.map_cons, List.map_cons, ← ih]
theorem name_long {l : List Nat} (h : 16 < l.length) : nameL l = false := by
  unfold nameL
  rw [decide_eq_false (show ¬ l.length ≤ 16 by omega)]
  simp
theorem name_cons {c : Nat} {l : List Nat} (h : (c :: l).length ≤ 16) : nameL (c :: l) = (decide (c ∈ letL) && (c :: l).all fun c => decide (c ∈ sigL)) := by
  unfold nameL
  rw [decide_eq_true h, decide_eq_true (show 1 ≤ (c :: l).length by simp)]
  rfl
theorem pu_is_name {K : PySem.W.Frag} : ∀ vs H Q E, sp_is_name K vs H Q E → t_is_name K { nx := fun _ H' => Q .non H', rt := Q } (start n_is_name vs) H := by
  rintro vs H Q E ⟨v, rfl, kn, hz, q⟩
  walk_at "s"
  cases v with
  | ref a =>
    obtain ⟨t, kn⟩ := kn
    refine ⟨t, kn, ?_⟩
    cases kn <;> exact q H (Same.refl H)
  | str z =>
    replace hz := hz z rfl
    have el : z.cps.toList.length = z.length := by simp [Str.length]
    have en : isNameV (V.str z) = nameL z.cps.toList := rfl
    rw [en] at q
    walk_at "s"
    walk_at "if"
    · intro h1
      walk_at "s"
      walk_at "if"
      · intro h2
        walk_at "s"
        exact (name_long (l := z.cps.toList) (by omega)) ▸ q H (Same.refl H)
      · intro h2
        walk_at "s"
        obtain ⟨c, l, hl⟩ : ∃ c l, z.cps.toList = c :: l := by
          cases h : z.cps.toList with
          | nil => rw [h] at el; simp at el; omega
          | cons c l => exact ⟨c, l, rfl⟩
        rw [hl, name_cons (by rw [← hl]; omega)] at q
        refine ⟨c, by rw [hl]; exact atI_zero c l, ?_⟩
        walk_at "s"
        walk_at "if"
        · intro h3
          walk_at "s"
          refine Or.inr (Or.inr ?_)
          walk_at "s"
          refine ⟨z, rfl, ?_⟩
          intro D hD
          refine lc_fm walk_signs (fun v => match v with
            | .str ⟨⟨[c]⟩⟩ => some (V.bl (decide (c ∈ sigL)))
            | _ => none) hD (by simpa [el] using hz) signs_at (fun _ _ => trivial) ?_ ?_
          · intro x H' Q' R hx hs k1 _
            obtain ⟨c, hc, rfl⟩ := List.mem_map.mp hx
            walk_at "s"
            exact k1 H' _ (Same.refl _) rfl
          · intro H' h4 hs
            rw [map_is_all, hl] at h4
            walk_at "s"
            refine ⟨_, SqL.of h4, ?_⟩
            have h3' : decide (c ∈ letL) = true := decide_eq_true h3
            have q' := q H' hs
            rw [h3', Bool.true_and] at q'
            have e : ((c :: l).map fun c => decide (c ∈ sigL)).all id = (c :: l).all fun c => decide (c ∈ sigL) := by rw [List.all_map]; rfl
            rw [e]
            exact q'
        · intro h3
          walk_at "s"
          have h3' : decide (c ∈ letL) = false := decide_eq_false h3
          have q' := q H (Same.refl H)
          rw [h3', Bool.false_and] at q'
          exact q'
    · intro h1
      walk_at "s"
      have e : z.cps.toList = [] := List.eq_nil_of_length_eq_zero (by omega)
      rw [e] at q
      exact q H (Same.refl H)
  | bl i => exact q H (Same.refl H)
  | int i => exact q H (Same.refl H)
  | non => exact q H (Same.refl H)
  | _ => exact kn.elim

theorem cut_to {xs : List V} (k : Nat) : cutV xs none (some (k : Int)) = xs.take k := by
  unfold cutV
  rw [HT.sIx_none, HT.sIx_nat, List.drop_zero, Nat.sub_zero]
  by_cases h : k ≤ xs.length
  · rw [Nat.min_eq_left h]
  · rw [Nat.min_eq_right (by omega), List.take_length, List.take_of_length_le (by omega)]
theorem pu_law_pen {K : PySem.W.Frag} : ∀ vs H Q E, sp_law_pen K vs H Q E → t_law_pen K { nx := fun _ H' => Q .non H', rt := Q } (start n_law_pen vs) H := by
  rintro vs H Q E ⟨a, ns, rfl, hs, hl, q⟩
  walk_at "s"
  refine ⟨_, Or.inl ⟨hs, fun p hp => ?_⟩⟩
  rw [show cutV (ns.map V.int) none (some 63) = (ns.map V.int).take 63 from cut_to 63]
  walk_at "s"
  refine ⟨_, Or.inl (SqL.of upd_same), fun p2 hp2 => ?_⟩
  walk_at "s"
  intro p3 hp3
  walk_at "s"
  have n1 : p2 ≠ p3 := ne_of_none upd_same hp3
  have n0 := (upd_none hp2).1
  have n3 := (upd_none (upd_none hp3).1).1
  refine q p3 p2 _ n3 n0 (same_upd (same_upd (same_new hp) n0) n3) ⟨ns.take 63, 0, 0, upd_same, ?_, by omega, by omega, by omega, by rw [List.length_take]; omega⟩
  rw [upd_ne n1, upd_same, List.map_take]

theorem pw3 {c a : Int} (a0 : 0 ≤ a) (a1 : a ≤ 1000000) : CPow (c % 2147483549 + 30557 * a + 8419) 3 := by
  unfold CPow
  omega
theorem pw5 {x a : Int} (h0 : 0 ≤ x) (h1 : x < 2147483647) (a0 : 0 ≤ a) (a1 : a ≤ 1000000) : CPow (x * (2 * a + 217) + 6101 * a * a + 59) 5 := by
  have b1 : x * (2 * a + 217) ≤ 2147483647 * 2000217 := Int.mul_le_mul (by omega) (by omega) (by omega) (by omega)
  have b2 : 0 ≤ x * (2 * a + 217) := Int.mul_nonneg h0 (by omega)
  have b3 : 6101 * a * a ≤ 6101000000 * 1000000 := Int.mul_le_mul (by omega) a1 a0 (by omega)
  have b4 : 0 ≤ 6101 * a * a := Int.mul_nonneg (by omega) a0
  unfold CPow
  omega
theorem abs_nat (i : Int) : (if i < 0 then -i else i) = (i.natAbs : Int) := by split <;> omega
/-- an item of some ints at a rest -/
theorem at_rest {ns : List Int} {a : Int} (a0 : 0 ≤ a) (h : ns ≠ []) : ∃ y, atI (ns.map V.int) (a % (((ns.map V.int).length : Nat) : Int)) = some (V.int y) := by
  have hl : 0 < ns.length := List.length_pos_iff.mpr h
  rw [List.length_map]
  have h1 : 0 ≤ a % (ns.length : Int) := Int.emod_nonneg _ (by omega)
  have h2 : a % (ns.length : Int) < ns.length := Int.emod_lt_of_pos _ (by omega)
  obtain ⟨j, hj⟩ : ∃ j : Nat, a % (ns.length : Int) = (j : Int) := ⟨(a % (ns.length : Int)).toNat, by omega⟩
  rw [hj] at h2 ⊢
  refine ⟨ns[j]'(by omega), atI_nat ?_⟩
  rw [List.getElem?_map, List.getElem?_eq_getElem (by omega)]
  rfl
theorem pu_law_draw {K : PySem.W.Frag} : ∀ vs H Q E, sp_law_draw K vs H Q E → t_law_draw K { nx := fun _ H' => Q .non H', rt := Q } (start n_law_draw vs) H := by
  rintro vs H Q E ⟨p, c, m, n, rfl, ⟨ns, at_, left, hp, hc, a0, a1, l0, nl⟩, hn, m0, m1, q⟩
  have hl : at_ ≤ 1000000 := by unfold LIM at hn; omega
  have npc : c ≠ p := fun e => by subst e; rw [hp] at hc; cases ns <;> cases hc
  walk_at "s"
  walk_at "ix"
  walk_at "if"
  · intro h
    walk_at "s"
    walk_at "ix"
    walk_at "ix"
    refine Or.inl ⟨_, _, _, rfl, hp, rfl, ?_⟩
    walk_at "s"
    exact q _ _ (Int.emod_nonneg _ (by omega)) (Int.emod_lt_of_pos _ m0) (Kp.upd (Kp.refl H)) ⟨ns, at_, left / m, upd_same, by rw [upd_ne npc]; exact hc, a0, by omega, Int.ediv_nonneg l0 (by omega), nl⟩
  · intro h
    walk_at "s"
    walk_at "ix"
    refine Or.inl ⟨_, _, _, rfl, hp, rfl, ?_⟩
    refine heapS fun H1 hp1 k1 => ?_
    have hp1 : H1 p = some (.lst [.ref c, .int (at_ + 1), .int left]) := hp1
    have hc1 : H1 c = some (.lst (ns.map V.int)) := k1 _ _ npc hc
    dsimp only
    refine asgG (fun v H' => ∃ y, v = .int y ∧ Same H1 H') ?_ ?_
    · intro Q' k
      walk_at "s"
      walk_at "ix"
      intro p2 hp2
      walk_at "new"
      intro H2 hn2 s2
      have hp2 := s2 _ _ hp1
      have hc2 := s2 _ _ hc1
      walk_at "s"
      refine ⟨_, _, .lst (SqL.of hc2) (dpAll_ints ns), .lst (SqL.of hn2) .nil, shp_ints ns, shp_nil, ?_⟩
      rw [eqv_nil]
      walk_at "s"
      walk_at "if"
      · intro h0
        walk_at "s"
        exact k _ _ ⟨_, rfl, s2⟩
      · intro h0
        have h0 : ns ≠ [] := fun e => by rw [e] at h0; cases h0
        walk_at "s"
        walk_at "ix"
        walk_at "ix"
        refine ⟨_, Or.inl ⟨_, Or.inl (SqL.of hc2), rfl⟩, ?_⟩
        obtain ⟨y, hy⟩ := at_rest a0 h0
        have hl2 : (0 : Int) < ((ns.map V.int).length : Nat) := by
          rw [List.length_map]
          have := List.length_pos_iff.mpr h0
          omega
        walk_at "s"
        refine Or.inl ⟨_, _, _, rfl, Or.inl (SqL.of hc2), hy, ?_⟩
        walk_at "s"
        exact k _ _ ⟨_, rfl, s2⟩
    · rintro v H2 ⟨y, rfl, s2⟩
      have hp2 := s2 _ _ hp1
      have hc2 := s2 _ _ hc1
      have k2 : Kp p H H2 := k1.trans (same_kp s2)
      have fin : ∀ x : Int, 0 ≤ x % m ∧ x % m < m := fun x => ⟨Int.emod_nonneg _ (by omega), Int.emod_lt_of_pos _ m0⟩
      -- the end, mixed
      refine stG (fun σ' H' => σ' = [some (V.ref p), some (V.int m), none, some (V.int at_), some (V.int y), none, none] ∧ H' = H2) ?_ ?_
      · intro k' k
        walk_at "s"
        walk_at "ix"
        refine ⟨_, Or.inl ⟨_, Or.inl (SqL.of hc2), rfl⟩, ?_⟩
        walk_at "s"
        walk_at "if"
        · intro h1
          walk_at "s"
          walk_at "if"
          · intro h2
            rw [abs_nat] at h2
            walk_at "s"
            refine Or.inl ⟨_, _, _, rfl, hp2, rfl, ?_⟩
            walk_at "s"
            refine q _ _ (fin _).1 (fin _).2 (Kp.upd k2) ⟨ns, at_ + 1, _, upd_same, by rw [upd_ne npc]; exact hc2, by omega, by omega, ?_, nl⟩
            refine Int.ediv_nonneg ?_ (by omega)
            rw [abs_nat]
            have h3 : (10 : Int) ^ Int.toNat 18 ≤ (y.natAbs : Int) := h2
            split <;> omega
          · intro h2
            walk_at "s"
            exact k _ _ ⟨rfl, rfl⟩
        · intro h1
          walk_at "s"
          exact k _ _ ⟨rfl, rfl⟩
      · rintro σ' H' ⟨rfl, rfl⟩
        walk_at "s"
        refine ⟨pw5 (Int.emod_nonneg _ (by decide)) (Int.emod_lt_of_pos _ (by decide)) a0 hl, ?_⟩
        walk_at "s"
        exact q _ _ (fin _).1 (fin _).2 k2 ⟨ns, at_ + 1, left, hp2, hc2, by omega, by omega, l0, nl⟩

theorem atI_lt {α : Type} {xs : List α} {r : Int} (h0 : 0 ≤ r) (h1 : r < xs.length) : ∃ x, x ∈ xs ∧ atI xs r = some x := by
  obtain ⟨j, rfl⟩ : ∃ j : Nat, r = (j : Int) := ⟨r.toNat, by omega⟩
  have hj : j < xs.length := by omega
  exact ⟨xs[j], List.getElem_mem hj, atI_nat (List.getElem?_eq_getElem hj)⟩
theorem kp_sq {K : PySem.W.Frag} {p a : Addr} {H H' : Hp} {xs : List V} (k : Kp p H H') (n : a ≠ p) (h : Sq K H a xs) : Sq K H' a xs := by
  rcases h with ((h | ⟨o, h⟩) | h) | ((h | ⟨o, h⟩) | h)
  · exact .inl (.inl (.inl (k _ _ n h)))
  · exact .inl (.inl (.inr ⟨o, k _ _ n h⟩))
  · exact .inl (.inr h)
  · exact .inr (.inl (.inl (k _ _ n h)))
  · exact .inr (.inl (.inr ⟨o, k _ _ n h⟩))
  · exact .inr (.inr h)
theorem line1000 {n : Nat} (h : n ≤ 1000) : n ≤ sizeLine := Nat.le_trans h (by decide)
theorem pu_law_pick {K : PySem.W.Frag} : ∀ vs H Q E, sp_law_pick K vs H Q E → t_law_pick K { nx := fun _ H' => Q .non H', rt := Q } (start n_law_pick vs) H := by
  rintro vs H Q E ⟨p, c, a, xs, n, rfl, _, hp, hn, hx, hl, ha, q⟩
  have hpos : 0 < xs.length := List.length_pos_iff.mpr hx
  rcases ha with ⟨b, rfl, nb, hs⟩ | ⟨z, rfl, ez⟩
  · walk_at "s"
    refine ⟨_, Or.inl ⟨xs, hs, rfl⟩, ?_⟩
    walk_at "s"
    refine ⟨p, c, _, n, rfl, hp, hn, by omega, by omega, fun r H' r0 r1 k hp' => ?_⟩
    obtain ⟨x, hx, e⟩ := atI_lt r0 r1
    walk_at "s"
    refine Or.inl ⟨xs, _, x, rfl, kp_sq k nb hs, e, ?_⟩
    walk_at "s"
    exact q x H' hx k hp'
  · have el : z.length = xs.length := by rw [ez, List.length_map]; simp [Str.length]
    have hz : z.length ≤ sizeLine := line1000 (by omega)
    walk_at "s"
    refine ⟨p, c, _, n, rfl, hp, hn, by omega, by omega, fun r H' r0 r1 k hp' => ?_⟩
    have hl2 : r < z.cps.toList.length := by
      have : z.cps.toList.length = z.length := by simp [Str.length]
      omega
    obtain ⟨d, hd, e⟩ := atI_lt r0 hl2
    walk_at "s"
    refine ⟨d, e, ?_⟩
    walk_at "s"
    exact q _ H' (by rw [ez]; exact List.mem_map.mpr ⟨d, hd, rfl⟩) k hp'

theorem filt_nil (S : List Nat) (l : List Nat) : ((l.map fun c => V.str ⟨#[c]⟩).filterMap fun v => match v with
    | .str ⟨⟨[c]⟩⟩ => if decide (c ∈ S) = true then none else some v
    | _ => none) = (l.filter fun c => !decide (c ∈ S)).map fun c => V.str ⟨#[c]⟩ := by
  induction l with
  | nil => rfl
  | cons a l ih =>
    rw [List.map_cons, List.filterMap_cons, List.filter_cons]
    by_cases h : a ∈ S
    · simp only [h, decide_true, if_true, Bool.not_true, Bool.false_eq_true, if_false]
      exact ih
    · simp only [h, decide_false, if_false, Bool.not_false, Bool.false_eq_true, if_true, List.map_cons]
      rw [← ih]
theorem dpAll_signs {K : PySem.W.Frag} {H : Hp} : ∀ l : List Nat, DpAll K H (l.map fun c => V.str ⟨#[c]⟩) (l.map fun c => PyData.str ⟨#[c]⟩)
  | [] => .nil
  | c :: l => .cons (.str _) (dpAll_signs l)
theorem lay_signs : ∀ l : List Nat, (∀ c ∈ l, c < 128) → PyData.canLayAll0 (l.map fun c => PyData.str ⟨#[c]⟩) = true
  | [], _ => by simp [PyData.canLayAll0]
  | c :: l, h => by
    have h1 := h c List.mem_cons_self
    have h2 := lay_signs l fun d hd => h d (List.mem_cons_of_mem _ hd)
    simp [PyData.canLayAll0, PyData.canLay0, PyData.strOk, h2]
    omega
theorem dep_signs : ∀ l : List Nat, PyData.depthAll (l.map fun c => PyData.str ⟨#[c]⟩) = 0
  | [] => by simp [PyData.depthAll]
  | c :: l => by simp [PyData.depthAll, PyData.depth, dep_signs l]
theorem sig_eq : ((Str.ofString "abcdefghijklmnopqrstuvwxyz") ++ (Str.ofString "0123456789.") : Str).cps.toList = sigL := by decide +kernel
theorem filt_all (S l : List Nat) : (l.filter fun c => !decide (c ∈ S)).isEmpty = l.all fun c => decide (c ∈ S) := by
  induction l with
  | nil => rfl
  | cons a l ih =>
    rw [List.filter_cons, List.all_cons]
    by_cases h : a ∈ S <;> simp [h]
    simpa using ih
theorem pu_law_is_name {K : PySem.W.Frag} : ∀ vs H Q E, sp_law_is_name K vs H Q E → t_law_is_name K { nx := fun _ H' => Q .non H', rt := Q } (start n_law_is_name vs) H := by
  rintro vs H Q E ⟨z, rfl, hl, hc, q⟩
  have hz : z.length ≤ sizeLine := line1000 hl
  have el : z.cps.toList.length = z.length := by simp [Str.length]
  have zs : Same H H := Same.refl H
  walk_at "s"
  walk_at "if"
  · intro h
    have h := V.int.inj h
    walk_at "s"
    have e : z.cps.toList = [] := List.eq_nil_of_length_eq_zero (by omega)
    rw [e] at q
    exact q H zs
  · intro h
    have h1 : 0 < z.length := by
      refine Nat.pos_of_ne_zero fun e => h ?_
      rw [e]
      rfl
    walk_at "s"
    walk_at "if"
    · intro h
      walk_at "s"
      exact (name_long (l := z.cps.toList) (by omega)) ▸ q H zs
    · intro h
      walk_at "s"
      obtain ⟨c, l, hl⟩ : ∃ c l, z.cps.toList = c :: l := by
        cases h : z.cps.toList with
        | nil => rw [h] at el; simp at el; omega
        | cons c l => exact ⟨c, l, rfl⟩
      rw [hl, name_cons (by rw [← hl]; omega)] at q
      refine ⟨c, by rw [hl]; exact atI_zero c l, ?_⟩
      walk_at "s"
      walk_at "if"
      · intro h3
        walk_at "s"
        have h3' : decide (c ∈ letL) = false := decide_eq_false h3
        rw [h3', Bool.false_and] at q
        exact q H zs
      · intro h3
        have h3' : decide (c ∈ letL) = true := decide_eq_true h3
        rw [h3', Bool.true_and] at q
        walk_at "s"
        refine Or.inr (Or.inr ?_)
        walk_at "s"
        refine ⟨z, rfl, ?_⟩
        intro D hD
        refine lc_fm walk_signs (fun v => match v with
          | .str ⟨⟨[c]⟩⟩ => if decide (c ∈ sigL) = true then none else some v
          | _ => none) hD (by simpa [el] using hz) signs_at (fun _ _ => trivial) ?_ ?_
        · intro x H' Q' R hx hs k1 k2
          obtain ⟨c, hc, rfl⟩ := List.mem_map.mp hx
          walk_at "s"
          walk_at "if"
          · intro h
            rw [sig_eq] at h
            walk_at "s"
            exact k1 H' _ (Same.refl _) (by simp [h])
          · intro h
            rw [sig_eq] at h
            exact k2 H' (Same.refl _) (by simp [h])
        · intro H' h4 hs
          rw [filt_nil, hl] at h4
          have hc1 : ∀ d ∈ ((c :: l).filter fun c => !decide (c ∈ sigL)), d < 128 := fun d hd => hc d (by rw [hl]; exact (List.mem_filter.mp hd).1)
          walk_at "s"
          intro p2 hp2
          walk_at "new"
          intro H2 hn2 s2
          walk_at "s"
          refine ⟨_, _, .lst (SqL.of (s2 _ _ h4)) (dpAll_signs _), .lst (SqL.of hn2) .nil, shp_lst (lay_signs _ hc1) (by rw [dep_signs]; omega), shp_nil, ?_⟩
          rw [eqv_nil]
          have e : ((((c :: l).filter fun c => !decide (c ∈ sigL))).map fun c => PyData.str ⟨#[c]⟩).isEmpty = (c :: l).all fun c => decide (c ∈ sigL) := by
            rw [← filt_all]
            cases ((c :: l).filter fun c => !decide (c ∈ sigL)) <;> rfl
          rw [e]
          exact q H2 (hs.trans s2)

/-- a short text of plain signs -/
def shortB (k : Nat) : V → Bool
  | .str z => decide (z.length ≤ k) && z.cps.toList.all fun c => decide (c < 128)
  | _ => false
theorem short_of {k : Nat} {x : V} {xs : List V} (h : xs.all (shortB k) = true) (hx : x ∈ xs) : ∃ z, x = .str z ∧ z.length ≤ k ∧ ∀ c ∈ z.cps.toList, c < 128 := by
  have h1 := List.all_eq_true.mp h x hx
  cases x with
  | str z =>
    simp only [shortB, Bool.and_eq_true, decide_eq_true_eq, List.all_eq_true] at h1
    exact ⟨z, rfl, h1.1, h1.2⟩
  | _ => cases h1
theorem Pen.same {H H' : Hp} {p c : Addr} {n : Int} (P : Pen H p c n) (s : Same H H') : Pen H' p c n := by
  obtain ⟨ns, a, l, h1, h2, h3⟩ := P.ex
  exact ⟨⟨ns, a, l, s _ _ h1, s _ _ h2, h3⟩⟩
theorem Pen.mono {H : Hp} {p c : Addr} {n m : Int} (P : Pen H p c n) (h : n ≤ m) : Pen H p c m := by
  obtain ⟨ns, a, l, h1, h2, h3, h4, h5⟩ := P.ex
  exact ⟨⟨ns, a, l, h1, h2, h3, by omega, h5⟩⟩
theorem Pen.ne {H : Hp} {p c q : Addr} {n : Int} (P : Pen H p c n) (h : H q = none) : q ≠ p ∧ q ≠ c := by
  obtain ⟨ns, a, l, h1, h2, _⟩ := P.ex
  constructor <;> intro z <;> subst z
  · rw [h1] at h; cases h
  · rw [h2] at h; cases h
theorem Pen.put {H : Hp} {p c q : Addr} {n : Int} {o : HO} (P : Pen H p c n) (h : q ≠ p ∧ q ≠ c) : Pen (upd H q o) p c n := by
  obtain ⟨ns, a, l, h1, h2, h3⟩ := P.ex
  exact ⟨⟨ns, a, l, by rw [upd_ne h.1.symm]; exact h1, by rw [upd_ne h.2.symm]; exact h2, h3⟩⟩
theorem cut_mem {z : Str} {lo hi : Option Int} {c : Nat} (h : c ∈ (cutS z lo hi).cps.toList) : c ∈ z.cps.toList := by
  unfold cutS at h
  exact List.mem_of_mem_drop (List.mem_of_mem_take h)
theorem app_len (x y : Str) : (x ++ y).length = x.length + y.length := by rw [TL.len_tl, TL.tl_append, List.length_append, ← TL.len_tl, ← TL.len_tl]
theorem app_mem {x y : Str} {c : Nat} (h : c ∈ (x ++ y).cps.toList) : c ∈ x.cps.toList ∨ c ∈ y.cps.toList := by
  have h : c ∈ TL.tl (x ++ y) := h
  rw [TL.tl_append] at h
  exact List.mem_append.mp h
open TL in
theorem joinL_nil : ∀ ps : List (List Nat), joinL [] ps = ps.flatten
  | [] => rfl
  | [p] => by simp [joinL]
  | p :: q :: r => by
    have ih := joinL_nil (q :: r)
    simp only [joinL, List.nil_append, List.flatten_cons] at ih ⊢
    rw [ih]
open TL in
theorem join_none (zs : List Str) : (Txt.join (Str.ofString "") zs).cps.toList = (zs.map fun z => z.cps.toList).flatten := by
  have h := tl_join (Str.ofString "") zs
  rw [← join_eq] at h
  have e : tl (Str.ofString "") = [] := by decide +kernel
  rw [e, joinL_nil] at h
  exact h
theorem join_short : ∀ zs : List Str, (∀ z ∈ zs, z.length ≤ 1 ∧ ∀ c ∈ z.cps.toList, c < 128) → ((zs.map fun z => z.cps.toList).flatten.length ≤ zs.length ∧ (zs.map (·.length)).sum ≤ zs.length) ∧ ∀ c ∈ (zs.map fun z => z.cps.toList).flatten, c < 128
  | [], _ => by simp
  | z :: zs, h => by
    obtain ⟨h1, h2⟩ := h z List.mem_cons_self
    obtain ⟨⟨h3, h5⟩, h4⟩ := join_short zs fun y hy => h y (List.mem_cons_of_mem _ hy)
    have e : z.cps.toList.length = z.length := by simp [Str.length]
    refine ⟨⟨?_, ?_⟩, fun c hc => ?_⟩
    · rw [List.map_cons, List.flatten_cons, List.length_append, List.length_cons]
      omega
    · rw [List.map_cons, List.sum_cons, List.length_cons]
      omega
    · rw [List.map_cons, List.flatten_cons] at hc
      rcases List.mem_append.mp hc with m | m
      · exact h2 c m
      · exact h4 c m
theorem pu_law_text {K : PySem.W.Frag} : ∀ vs H Q E, sp_law_text K vs H Q E → t_law_text K { nx := fun _ H' => Q .non H', rt := Q } (start n_law_text vs) H := by
  rintro vs H Q E ⟨p, c, n, rfl, hp, hn, q⟩
  walk_at "s"
  intro l1 h1
  walk_at "new"
  intro H1 i1 s1
  have n1 := hp.ne h1
  walk_at "s"
  refine ⟨p, c, .ref l1, _, n, rfl, trivial, hp.same s1, by omega, (by simp), (by simp), Or.inl ⟨l1, rfl, n1.1, Or.inl (SqL.of i1)⟩, fun x H2 hx k2 p2 => ?_⟩
  obtain ⟨z1, rfl, z1l, z1c⟩ := short_of (k := 1) (by decide +kernel) hx
  walk_at "s"
  intro l2 h2
  walk_at "new"
  intro H3 i2 s3
  walk_at "tup2"
  intro l3 h3
  have p3 := p2.same s3
  have n3 := p3.ne h3
  walk_at "new"
  intro H4 i3 s4
  walk_at "s"
  refine ⟨p, c, .ref l3, _, n + 1, rfl, trivial, p3.same s4, by omega, (by simp), (by simp), Or.inl ⟨l3, rfl, n3.1, Or.inl (SqL.of i3)⟩, fun x H5 hx k5 p5 => ?_⟩
  obtain ⟨m, rfl, m0, m1⟩ : ∃ m : Int, x = .int m ∧ 0 ≤ m ∧ m ≤ 16 := by
    simp only [List.mem_cons, List.not_mem_nil, or_false] at hx
    rcases hx with rfl | rfl | rfl | rfl | rfl | rfl | rfl <;> exact ⟨_, rfl, by omega, by omega⟩
  walk_at "s"
  refine ⟨m, rfl, by omega, by omega, ?_⟩
  intro D hD
  have nD := p5.ne hD
  have pD := p5.same (same_new (o := .lst []) hD)
  refine lc_it walk_range (fun i H' => (∃ zs : List Str, H' D = some (.lst (zs.map V.str)) ∧ zs.length = i ∧ ∀ z ∈ zs, z.length ≤ 1 ∧ ∀ c ∈ z.cps.toList, c < 128) ∧ Kp p H5 H' ∧ Pen H' p c (n + 2 + i)) ?_ (fun _ _ _ _ => trivial) ?_ ?_
  · exact ⟨⟨[], upd_same, rfl, fun _ h => nomatch h⟩, same_kp (same_new hD), pD.mono (by omega)⟩
  · rintro i x H6 H' hi ⟨⟨zs, e1, e2, e3⟩, k6, p6⟩ ⟨rfl, rfl⟩
    walk_at "s"
    refine ⟨p, c, _, _, _, rfl, trivial, p6, by omega, ?_, ?_, Or.inr ⟨_, rfl, rfl⟩, fun x H7 hx k7 p7 => ?_⟩
    · decide +kernel
    · decide +kernel
    obtain ⟨z, rfl, hz1, hz2⟩ := short_of (k := 1) (by decide +kernel) hx
    walk_at "s"
    refine ⟨_, k7 _ _ nD.1 e1, ?_, ?_⟩
    · rw [List.length_map, e2]
      exact Nat.lt_of_lt_of_le (show i < 17 by omega) (by decide)
    · refine ⟨⟨zs ++ [z], by rw [upd_same, List.map_append]; rfl, by simp [e2], fun y hy => ?_⟩, ?_, ?_⟩
      · rcases List.mem_append.mp hy with h | h
        · exact e3 y h
        · cases List.mem_singleton.mp h
          exact ⟨hz1, hz2⟩
      · exact (k6.trans k7).new hD
      · exact (p7.put nD).mono (by omega)
  · rintro H6 ⟨⟨zs, e1, e2, e3⟩, k6, p6⟩
    obtain ⟨⟨j1, j3⟩, j2⟩ := join_short zs e3
    walk_at "s"
    refine ⟨_, D, zs, rfl, rfl, Or.inl (SqL.of e1), ?_, ?_⟩
    · rw [show (Str.ofString "").length = 0 from rfl, Nat.mul_zero]
      omega
    have wl : (Txt.join (Str.ofString "") zs).length ≤ 16 := by
      have e := join_none zs
      have e2 : (Txt.join (Str.ofString "") zs).length = (Txt.join (Str.ofString "") zs).cps.toList.length := by simp [Str.length]
      rw [e2, e]
      omega
    have wc : ∀ c ∈ (Txt.join (Str.ofString "") zs).cps.toList, c < 128 := by rw [join_none]; exact j2
    generalize Txt.join (Str.ofString "") zs = w at wl wc ⊢
    have k0 : Kp p H H6 := (((((same_kp s1).trans k2).trans (same_kp s3)).trans (same_kp s4)).trans k5).trans k6
    walk_at "s"
    refine ⟨line1000 (by omega), ?_⟩
    have tl : (z1 ++ w).length ≤ 17 := by
      rw [TL.len_tl, TL.tl_append, List.length_append, ← TL.len_tl, ← TL.len_tl]
      omega
    have tc : ∀ c ∈ (z1 ++ w).cps.toList, c < 128 := by
      intro c hc
      have hc : c ∈ TL.tl (z1 ++ w) := hc
      rw [TL.tl_append] at hc
      rcases List.mem_append.mp hc with h | h
      · exact z1c c h
      · exact wc c h
    generalize z1 ++ w = t at tl tc ⊢
    dsimp only
    refine stG (fun σ' H' => ∃ t : Str, σ'[3]? = some (some (.str t)) ∧ t.length ≤ 40 ∧ (∀ c ∈ t.cps.toList, c < 128) ∧ Kp p H H' ∧ Pen H' p c (n + 30)) ?_ ?_
    · intro k' k
      walk_at "s"
      refine ⟨p, c, 4, _, rfl, p6, by omega, by omega, by omega, fun r H7 r0 r1 k7 p7 => ?_⟩
      walk_at "s"
      walk_at "if"
      · intro h0
        walk_at "s"
        refine ⟨line1000 (by omega), ?_⟩
        walk_at "s"
        refine ⟨p, c, _, _, rfl, p7, by omega, by omega, by omega, fun r2 H8 r3 r4 k8 p8 => ?_⟩
        walk_at "s"
        refine ⟨line1000 (by omega), ?_⟩
        walk_at "s"
        intro l8 h8
        have n8 := p8.ne h8
        walk_at "new"
        intro H9 i9 s9
        walk_at "s"
        refine ⟨p, c, .ref l8, _, _, rfl, trivial, p8.same s9, by omega, (by simp), (by simp), Or.inl ⟨l8, rfl, n8.1, Or.inl (SqL.of i9)⟩, fun x HA hx kA pA => ?_⟩
        obtain ⟨z2, rfl, z2l, z2c⟩ := short_of (k := 1) (by decide +kernel) hx
        have c1 := cutS_length t none (some r2)
        have c2 := cutS_length t (some r2) none
        have m1 : ∀ d ∈ (cutS t none (some r2)).cps.toList, d < 128 := fun d hd => tc d (cut_mem hd)
        have m2 : ∀ d ∈ (cutS t (some r2) none).cps.toList, d < 128 := fun d hd => tc d (cut_mem hd)
        walk_at "s"
        refine ⟨line1000 (by omega), ?_⟩
        walk_at "s"
        refine ⟨line1000 (by omega), ?_⟩
        walk_at "s"
        refine ⟨line1000 (by rw [app_len]; omega), ?_⟩
        walk_at "s"
        refine k _ _ ⟨_, rfl, by rw [app_len, app_len]; omega, fun d hd => ?_, (((k0.trans k7).trans k8).trans (same_kp s9)).trans kA, pA.mono (by omega)⟩
        rcases app_mem hd with h | h
        · rcases app_mem h with h | h
          · exact m1 d h
          · exact z2c d h
        · exact m2 d h
      · intro h0
        walk_at "s"
        exact k _ _ ⟨t, rfl, by omega, tc, k0.trans k7, p7.mono (by omega)⟩
    · rintro σ' H' ⟨t, e, tl, tc, k, pe⟩
      exact mVar_of e (q _ _ tl tc k pe)

theorem pu_law {K : PySem.W.Frag} : ∀ vs H Q E, sp_law K vs H Q E → t_law K { nx := fun _ H' => Q .non H', rt := Q } (start n_law vs) H := by
  rintro vs H Q E ⟨a, ns, rfl, hs, hl, q⟩
  walk_at "s"
  refine ⟨a, ns, rfl, hs, hl, fun p c H1 hp hc s1 p1 => ?_⟩
  walk_at "s"
  refine ⟨12, rfl, by omega, by omega, ?_⟩
  refine for_it walk_range (fun i σ H' => (∃ v2 v3 v4 v5 v6 v7, σ = [some (V.ref a), some (V.ref p), v2, v3, v4, v5, v6, v7]) ∧ Kp p H1 H' ∧ Pen H' p c (40 * i)) ?_ (fun _ _ _ _ _ => trivial) ?_ ?_
  · exact ⟨⟨none, none, none, none, none, none, rfl⟩, Kp.refl _, p1.mono (by omega)⟩
  · rintro i x σ H2 H' hi ⟨⟨v2, v3, v4, v5, v6, v7, rfl⟩, k2, p2⟩ ⟨rfl, rfl⟩
    have li : (40 * i : Int) + 40 ≤ LIM := by unfold LIM; have : i < 12 := hi; omega
    walk_at "s"
    refine ⟨p, c, _, rfl, p2, by omega, fun z H3 hz hc k3 p3 => ?_⟩
    have zl : ∀ y, V.str z = V.str y → y.length ≤ sizeLine := fun y e => by cases e; exact line1000 (by omega)
    walk_at "s"
    refine ⟨_, rfl, trivial, zl, fun H4 s4 => ?_⟩
    walk_at "s"
    refine ⟨z, rfl, by omega, hc, fun H5 s5 => ?_⟩
    walk_at "s"
    walk_at "if"
    · intro h; exact absurd rfl h
    intro _
    walk_at "s"
    refine ⟨_, rfl, trivial, zl, fun H6 s6 => ?_⟩
    walk_at "s"
    refine ⟨z, rfl, by omega, hc, fun H7 s7 => ?_⟩
    walk_at "s"
    walk_at "if"
    · intro h; exact absurd rfl h
    intro _
    have k7 : Kp p H1 H7 := (k2.trans k3).trans (same_kp (((s4.trans s5).trans s6).trans s7))
    have p7 := p3.same (((s4.trans s5).trans s6).trans s7)
    walk_at "s"
    refine ⟨p, c, _, _, rfl, p7, by omega, by omega, by omega, fun r1 H8 r10 r11 k8 p8 => ?_⟩
    walk_at "s"
    refine ⟨p, c, _, _, rfl, p8, by omega, by omega, by omega, fun r2 H9 r20 r21 k9 p9 => ?_⟩
    walk_at "s"
    refine ⟨_, _, rfl, ?_⟩
    walk_at "s"
    refine ⟨p, c, _, _, rfl, p9, by omega, by omega, by omega, fun r3 HA r30 r31 kA pA => ?_⟩
    have kk : Kp p H1 HA := ((k7.trans k8).trans k9).trans kA
    have pp : Pen HA p c (40 * ((i + 1 : Nat) : Int)) := pA.mono (by omega)
    walk_at "s"
    refine ⟨_, _, _, rfl, trivial, ?_⟩
    walk_at "s"
    walk_at "if"
    · intro h1
      walk_at "s"
      walk_at "if"
      · intro h2; exact absurd (by simp [withinV, h1]) h2
      intro _
      walk_at "s"
      refine ⟨_, _, _, rfl, trivial, ?_⟩
      walk_at "s"
      walk_at "if"
      · intro h2; exact absurd (by simp [withinV]) h2
      intro _
      walk_at "s"
      refine ⟨_, _, _, rfl, trivial, ?_⟩
      walk_at "s"
      refine ⟨_, rfl, trivial, ?_⟩
      walk_at "s"
      exact ⟨⟨_, _, _, _, _, _, rfl⟩, kk, pp⟩
    · intro h1
      walk_at "s"
      walk_at "if"
      · intro h2; exact absurd (by simp [withinV, h1]) h2
      intro _
      walk_at "s"
      refine ⟨_, _, _, rfl, trivial, ?_⟩
      walk_at "s"
      walk_at "if"
      · intro h2; exact absurd (by simp [withinV]) h2
      intro _
      walk_at "s"
      refine ⟨_, _, _, rfl, trivial, ?_⟩
      walk_at "s"
      refine ⟨_, rfl, trivial, ?_⟩
      walk_at "s"
      exact ⟨⟨_, _, _, _, _, _, rfl⟩, kk, pp⟩
  · rintro σ H2 ⟨⟨v2, v3, v4, v5, v6, v7, rfl⟩, k2, p2⟩
    walk_at "s"
    refine Or.inl ?_
    walk_at "s"
    intro a1 e1
    walk_at "new"
    intro G1 i1 g1
    walk_at "s"
    intro a2 e2
    walk_at "new"
    intro G2 i2 g2
    walk_at "s"
    intro a3 e3
    walk_at "new"
    intro G3 i3 g3
    walk_at "s"
    intro a4 e4
    walk_at "new"
    intro G4 i4 g4
    walk_at "s"
    intro a5 e5
    walk_at "new"
    intro G5 i5 g5
    walk_at "s"
    refine ⟨[(Sum.inl 1, V.int 1)], rfl, by decide, ?_⟩
    walk_at "put"
    intro G6 i6 g6
    walk_at "s"
    intro a6 e6
    walk_at "new"
    intro G7 i7 g7
    walk_at "s"
    intro a7 e7
    walk_at "new"
    intro G8 i8 g8
    walk_at "s"
    intro L eL
    generalize hG : upd G8 L _ = G
    have iL := hG ▸ upd_same (H := G8) (a := L)
    have gL : Same G8 G := hG ▸ same_new eL
    have x5 : ∀ b o, G4 b = some o → G b = some o := fun b o h => gL _ _ (g8 _ _ (g7 _ _ (g6 _ _ (ne_of_none h e5) (g5 _ _ h))))
    have x1 := x5 _ _ (g4 _ _ (g3 _ _ (g2 _ _ i1)))
    have x2 := x5 _ _ (g4 _ _ (g3 _ _ i2))
    have x3 := x5 _ _ (g4 _ _ i3)
    have x4 := x5 _ _ i4
    have x6 := gL _ _ (g8 _ _ (g7 _ _ i6))
    have x8 := gL _ _ i8
    walk_at "s"
    refine ⟨L, rfl, ⟨_, SqL.of iL⟩, ?_⟩
    refine for_it walk_list (fun i σ H' => (∃ v2 v3 v4 v5 v6 v7, σ = [some (V.ref a), some (V.ref p), v2, v3, v4, v5, v6, v7]) ∧ Same G H') ⟨⟨_, _, _, _, _, _, rfl⟩, Same.refl _⟩ (fun i σ H' _ h => (h.2).seq (SqL.of iL)) ?_ ?_
    · rintro i x σ HB HC hi ⟨⟨v2, v3, v4, v5, v6, v7, rfl⟩, sB⟩ ⟨rfl, hx⟩
      have hx := List.mem_of_getElem? hx
      have gd : Kn K HC x ∧ isIntV x = false ∧ ∀ z, x = .str z → z.length ≤ sizeLine := by
        simp only [List.mem_cons, List.not_mem_nil, or_false] at hx
        rcases hx with rfl | rfl | rfl | rfl | rfl | rfl | rfl | rfl | rfl | rfl | rfl
        · exact ⟨trivial, rfl, fun _ e => nomatch e⟩
        · exact ⟨trivial, rfl, fun _ e => nomatch e⟩
        · exact ⟨trivial, rfl, fun _ e => nomatch e⟩
        · exact ⟨trivial, rfl, fun _ e => by cases e; decide⟩
        · exact ⟨trivial, rfl, fun _ e => by cases e; decide⟩
        · exact ⟨⟨_, .tup (SqT.of (sB _ _ x1))⟩, rfl, fun _ e => nomatch e⟩
        · exact ⟨⟨_, .tup (SqT.of (sB _ _ x2))⟩, rfl, fun _ e => nomatch e⟩
        · exact ⟨⟨_, .lst (SqL.of (sB _ _ x3))⟩, rfl, fun _ e => nomatch e⟩
        · exact ⟨⟨_, .dk (sB _ _ x4)⟩, rfl, fun _ e => nomatch e⟩
        · exact ⟨⟨_, .dk (sB _ _ x6)⟩, rfl, fun _ e => nomatch e⟩
        · exact ⟨⟨_, .lst (SqL.of (sB _ _ x8))⟩, rfl, fun _ e => nomatch e⟩
      obtain ⟨kn, ni, zl⟩ := gd
      have nw : withinV (-5) 5 x = false := by cases x <;> first | rfl | cases ni
      walk_at "s"
      refine ⟨x, rfl, kn, ?_⟩
      rw [ni]
      walk_at "s"
      refine ⟨x, _, _, rfl, kn, ?_⟩
      rw [nw]
      walk_at "s"
      -- no text: no name either
      have stay : ∀ HD, Same G HD → (∃ w2 w3 w4 w5 w6 w7, [some (V.ref a), some (V.ref p), v2, v3, v4, v5, v6, some x] = [some (V.ref a), some (V.ref p), w2, w3, w4, w5, w6, w7]) ∧ Same G HD := fun HD h => ⟨⟨v2, v3, v4, v5, v6, some x, rfl⟩, h⟩
      cases x with
      | str z => walk_at "s"; exact stay _ sB
      | ref b =>
        obtain ⟨t, kt⟩ := kn
        refine ⟨t, kt, ?_⟩
        have ht : isB t .str = false := by cases kt <;> rfl
        dsimp only
        rw [ht]
        walk_at "s"
        refine ⟨_, rfl, ⟨t, kt⟩, zl, fun HD sD => ?_⟩
        walk_at "s"
        exact stay _ (sB.trans sD)
      | int n => cases ni
      | non =>
        walk_at "s"
        refine ⟨_, rfl, trivial, zl, fun HD sD => ?_⟩
        walk_at "s"
        exact stay _ (sB.trans sD)
      | bl n =>
        walk_at "s"
        refine ⟨_, rfl, trivial, zl, fun HD sD => ?_⟩
        walk_at "s"
        exact stay _ (sB.trans sD)
      | _ => exact kn.elim
    · rintro σ H2 ⟨⟨v2, v3, v4, v5, v6, v7, rfl⟩, sB⟩
      have n16 : isNameV (.str (Txt.mul "a" 16)) = true := by decide +kernel
      have n17 : isNameV (.str (Txt.mul "a" 17)) = false := by decide +kernel
      have l16 : ∀ z, V.str (Txt.mul "a" 16) = .str z → z.length ≤ sizeLine := fun _ e => by cases e; decide
      have l17 : ∀ z, V.str (Txt.mul "a" 17) = .str z → z.length ≤ sizeLine := fun _ e => by cases e; decide
      walk_at "s"
      refine ⟨_, rfl, trivial, ?_⟩
      walk_at "s"
      refine ⟨⟨by decide, fun _ _ => by decide, fun _ _ => by decide⟩, ?_⟩
      walk_at "s"
      refine ⟨_, rfl, trivial, l16, fun H3 s3 => ?_⟩
      rw [n16]
      walk_at "s"
      refine ⟨⟨by decide, fun _ _ => by decide, fun _ _ => by decide⟩, ?_⟩
      walk_at "s"
      refine ⟨_, rfl, trivial, l17, fun H4 s4 => ?_⟩
      rw [n17]
      walk_at "s"
      intro l hl
      generalize hG' : upd H4 l _ = G'
      have il := hG' ▸ upd_same (H := H4) (a := l)
      walk_at "s"
      refine ⟨_, rfl, ⟨_, .lst (SqL.of il)⟩, (fun _ e => nomatch e), fun H5 s5 => ?_⟩
      walk_at "s"
      exact q _
theorem ln_is_integer {K : PySem.W.Frag} : ∀ vs H Q E, sp_is_integer K vs H Q E → vs.length = 1 := by rintro vs H Q E ⟨v, rfl, _⟩; rfl
theorem ln_is_within {K : PySem.W.Frag} : ∀ vs H Q E, sp_is_within K vs H Q E → vs.length = 3 := by rintro vs H Q E ⟨v, _, _, rfl, _⟩; rfl
theorem ln_is_name {K : PySem.W.Frag} : ∀ vs H Q E, sp_is_name K vs H Q E → vs.length = 1 := by rintro vs H Q E ⟨v, rfl, _⟩; rfl
theorem ln_law_pen {K : PySem.W.Frag} : ∀ vs H Q E, sp_law_pen K vs H Q E → vs.length = 1 := by rintro vs H Q E ⟨_, _, rfl, _⟩; rfl
theorem ln_law_draw {K : PySem.W.Frag} : ∀ vs H Q E, sp_law_draw K vs H Q E → vs.length = 2 := by rintro vs H Q E ⟨_, _, _, _, rfl, _⟩; rfl
theorem ln_law_pick {K : PySem.W.Frag} : ∀ vs H Q E, sp_law_pick K vs H Q E → vs.length = 2 := by rintro vs H Q E ⟨_, _, _, _, _, rfl, _⟩; rfl
theorem ln_law_text {K : PySem.W.Frag} : ∀ vs H Q E, sp_law_text K vs H Q E → vs.length = 1 := by rintro vs H Q E ⟨_, _, _, rfl, _⟩; rfl
theorem ln_law_is_name {K : PySem.W.Frag} : ∀ vs H Q E, sp_law_is_name K vs H Q E → vs.length = 1 := by rintro vs H Q E ⟨_, rfl, _⟩; rfl
theorem ln_law {K : PySem.W.Frag} : ∀ vs H Q E, sp_law K vs H Q E → vs.length = 1 := by rintro vs H Q E ⟨_, _, rfl, _⟩; rfl

end
end GW
namespace GW
open PySem PyProof.Rows L2
theorem fk_is_integer {P : Program} {w : World} {K : PySem.W.Frag} {mg : Str → Option Value} {base : Heap} (T : Top K mg)  
    {fd : FuncData} (F : FnP K "is_integer" "is_integer" s_is_integer (He.ga K "is_integer") fd) : FnOk P w K mg base CX0 1 (He.ga K "is_integer") fd ["value"] (sp_is_integer K) := by
  refine F.ok sc_is_integer ln_is_integer (fun cdv A outer s H vs Q E hr h => ⟨t_is_integer K, PSs.nox ?_, pu_is_integer vs H Q E h⟩)
  exact (pss_one (ps_ret (ue_and (pe_callB (call_is1 .int) rfl T.b_isinstance boot_isinstance (pa_cons (uv 0) (pa_cons (pe_bltn rfl T.b_int (by decide +kernel) rfl) pa_nil))) (pe_one (ue_not (pe_callB (call_is1 .bl) rfl T.b_isinstance boot_isinstance (pa_cons (uv 0) (pa_cons (pe_bltn rfl T.b_bool (by decide +kernel) rfl) pa_nil))))))))
theorem ok_is_integer {P : Program} {w : World} {K : PySem.W.Frag} {mg : Str → Option Value} {base : Heap} (T : Top K mg)   :
    ∃ fd, FnP K "is_integer" "is_integer" s_is_integer (He.ga K "is_integer") fd ∧ FnOk P w K mg base CX0 1 (He.ga K "is_integer") fd ["value"] (sp_is_integer K) :=
  let ⟨fd, F⟩ := T.d_is_integer
  ⟨fd, F, fk_is_integer T  F⟩
theorem cl_is_integer {P : Program} {w : World} {K : PySem.W.Frag} {mg : Str → Option Value} {base : Heap} (T : Top K mg) (h : ∃ fd, FnP K "is_integer" "is_integer" s_is_integer (He.ga K "is_integer") fd ∧ FnOk P w K mg base CX0 1 (He.ga K "is_integer") fd ["value"] (sp_is_integer K)) :
    CalL P w K mg base "is_integer" 1 ["value"] (sp_is_integer K) := by
  obtain ⟨fd, F, h⟩ := h
  exact ⟨⟨fd, h, F.bindsN fun _ _ _ _ _ _ us hl => match us, hl with | [_], _ => rfl⟩, T.a_is_integer, F.kp⟩
theorem fk_is_name {P : Program} {w : World} {K : PySem.W.Frag} {mg : Str → Option Value} {base : Heap} (T : Top K mg)  
    {fd : FuncData} (F : FnP K "is_name" "is_name" s_is_name (He.ga K "is_name") fd) : FnOk P w K mg base CX0 1 (He.ga K "is_name") fd ["value"] (sp_is_name K) := by
  refine F.ok sc_is_name ln_is_name (fun cdv A outer s H vs Q E hr h => ⟨t_is_name K, PSs.nox ?_, pu_is_name vs H Q E h⟩)
  exact (pss_cons (ps_if (PW.pt (pw_or (pt_not (ut (pe_callB (call_is1 .str) rfl T.b_isinstance boot_isinstance (pa_cons (uv 0) (pa_cons (pe_bltn rfl T.b_str (by decide +kernel) rfl) pa_nil))))) (pw_or1 (pt_not (ut_chain uo_le uo_le pe_int (pe_callB cu_len rfl T.b_len (by decide +kernel) (pa_cons (uv 0) pa_nil)) (ug_int T.c_MOST_SIGNS rfl)))))) (pss_one (ps_ret pe_bl)) pss_nil)
    (pss_one (ps_ret (ue_and (pe_cmpR (uo_in (hu65 hr)) (pe_ix (ux (hu_of hr)) (uv 0) pe_int (fun _ _ => rfl)) (ug_str T.c_LETTERS rfl) (by with_unfolding_all rfl)) (pe_one (pe_callB (cu_all rfl) rfl T.b_all (by decide +kernel) (pa_cons (pe_lc (own := [("sign", 1)]) rfl sc_is_name.nd (ui (uv 0)) (blkOk_by (own := [("sign", 1)]) (by kernel_rfl)) (fun _ _ _ _ _ => (ugn 1 sc_is_name.nd)) (fun _ _ _ _ _ => pts_nil) (fun _ _ _ _ _ => (pe_cmpR (uo_in (hu65 hr)) (uv 1) (ug_str T.c_SIGNS rfl) (by with_unfolding_all rfl)))) pa_nil)))))))
theorem ok_is_name {P : Program} {w : World} {K : PySem.W.Frag} {mg : Str → Option Value} {base : Heap} (T : Top K mg)   :
    ∃ fd, FnP K "is_name" "is_name" s_is_name (He.ga K "is_name") fd ∧ FnOk P w K mg base CX0 1 (He.ga K "is_name") fd ["value"] (sp_is_name K) :=
  let ⟨fd, F⟩ := T.d_is_name
  ⟨fd, F, fk_is_name T  F⟩
theorem cl_is_name {P : Program} {w : World} {K : PySem.W.Frag} {mg : Str → Option Value} {base : Heap} (T : Top K mg) (h : ∃ fd, FnP K "is_name" "is_name" s_is_name (He.ga K "is_name") fd ∧ FnOk P w K mg base CX0 1 (He.ga K "is_name") fd ["value"] (sp_is_name K)) :
    CalL P w K mg base "is_name" 1 ["value"] (sp_is_name K) := by
  obtain ⟨fd, F, h⟩ := h
  exact ⟨⟨fd, h, F.bindsN fun _ _ _ _ _ _ us hl => match us, hl with | [_], _ => rfl⟩, T.a_is_name, F.kp⟩
theorem fk_law_pen {P : Program} {w : World} {K : PySem.W.Frag} {mg : Str → Option Value} {base : Heap} (T : Top K mg)  
    {fd : FuncData} (F : FnP K "_law_pen" "_law_pen" s_law_pen (He.ga K "_law_pen") fd) : FnOk P w K mg base CX0 1 (He.ga K "_law_pen") fd ["script"] (sp_law_pen K) := by
  refine F.ok sc_law_pen ln_law_pen (fun cdv A outer s H vs Q E hr h => ⟨t_law_pen K, PSs.nox ?_, pu_law_pen vs H Q E h⟩)
  exact (pss_one (ps_ret (pe_lst (pa_cons (pe_callTy cu_list rfl T.b_list (by decide +kernel) (pa_cons (pe_slice us (uv 0) po_none (upo pe_int)) pa_nil)) (pa_cons pe_int (pa_cons pe_int pa_nil))))))
theorem ok_law_pen {P : Program} {w : World} {K : PySem.W.Frag} {mg : Str → Option Value} {base : Heap} (T : Top K mg)   :
    ∃ fd, FnP K "_law_pen" "_law_pen" s_law_pen (He.ga K "_law_pen") fd ∧ FnOk P w K mg base CX0 1 (He.ga K "_law_pen") fd ["script"] (sp_law_pen K) :=
  let ⟨fd, F⟩ := T.d_law_pen
  ⟨fd, F, fk_law_pen T  F⟩
theorem cl_law_pen {P : Program} {w : World} {K : PySem.W.Frag} {mg : Str → Option Value} {base : Heap} (T : Top K mg) (h : ∃ fd, FnP K "_law_pen" "_law_pen" s_law_pen (He.ga K "_law_pen") fd ∧ FnOk P w K mg base CX0 1 (He.ga K "_law_pen") fd ["script"] (sp_law_pen K)) :
    CalL P w K mg base "_law_pen" 1 ["script"] (sp_law_pen K) := by
  obtain ⟨fd, F, h⟩ := h
  exact ⟨⟨fd, h, F.bindsN fun _ _ _ _ _ _ us hl => match us, hl with | [_], _ => rfl⟩, T.a_law_pen, F.kp⟩
theorem fk_law_draw {P : Program} {w : World} {K : PySem.W.Frag} {mg : Str → Option Value} {base : Heap} (T : Top K mg)  
    {fd : FuncData} (F : FnP K "_law_draw" "_law_draw" s_law_draw (He.ga K "_law_draw") fd) : FnOk P w K mg base CX0 1 (He.ga K "_law_draw") fd ["pen", "many"] (sp_law_draw K) := by
  refine F.ok sc_law_draw ln_law_draw (fun cdv A outer s H vs Q E hr h => ⟨t_law_draw K, PSs.nox ?_, pu_law_draw vs H Q E h⟩)
  exact (pss_cons (ps_if (utc uo_gt (pe_ix (ux (hu_of hr)) (uv 0) pe_int (fun _ _ => rfl)) pe_int (nomark _)) (pss_cons (us_set 2 sc_law_draw.nd (pe_op uo_mod (pe_callTy cu_int rfl T.b_int (by decide +kernel) (pa_cons (pe_ix (ux (hu_of hr)) (uv 0) pe_int (fun _ _ => rfl)) pa_nil)) (uv 1)))
    (pss_cons (ps_asg (pe_op uo_div (pe_callTy cu_int rfl T.b_int (by decide +kernel) (pa_cons (pe_ix (ux (hu_of hr)) (uv 0) pe_int (fun _ _ => rfl)) pa_nil)) (uv 1)) (pg_sub (uv 0) pe_int (uset (hu_of hr))))
    (pss_one (ps_ret (uv 2))))) pss_nil)
    (pss_cons (us_set 3 sc_law_draw.nd (pe_ix (ux (hu_of hr)) (uv 0) pe_int (fun _ _ => rfl)))
    (pss_cons (ps_asg (pe_op uo_add (uv 3) pe_int) (pg_sub (uv 0) pe_int (uset (hu_of hr))))
    (pss_cons (us_set 4 sc_law_draw.nd (pe_ifExp (utc (uo_eq hr.units) (pe_ix (ux (hu_of hr)) (uv 0) pe_int (fun _ _ => rfl)) (pe_lst pa_nil) (nomark _)) (pe_op uo_add (pe_op uo_mul pe_int (uv 3)) pe_int) (pe_ix (ux (hu_of hr)) (pe_ix (ux (hu_of hr)) (uv 0) pe_int (fun _ _ => rfl)) (pe_op uo_mod (pe_callTy cu_int rfl T.b_int (by decide +kernel) (pa_cons (uv 3) pa_nil)) (pe_callB cu_len rfl T.b_len (by decide +kernel) (pa_cons (pe_ix (ux (hu_of hr)) (uv 0) pe_int (fun _ _ => rfl)) pa_nil))) (fun _ _ => rfl))))
    (pss_cons (ps_if (PW.pt (pw_and (utc uo_lt (uv 3) (pe_callB cu_len rfl T.b_len (by decide +kernel) (pa_cons (pe_ix (ux (hu_of hr)) (uv 0) pe_int (fun _ _ => rfl)) pa_nil)) (nomark _)) (pw_and1 (utc uo_ge (pe_callB cu_abs rfl T.b_abs (by decide +kernel) (pa_cons (uv 4) pa_nil)) (pe_op uo_pow pe_int pe_int) (nomark _))))) (pss_cons (us_set 5 sc_law_draw.nd (pe_op uo_add (pe_op uo_mul pe_int (pe_op uo_sub (pe_callB cu_abs rfl T.b_abs (by decide +kernel) (pa_cons (uv 4) pa_nil)) (pe_op uo_pow pe_int pe_int))) (pe_callTy cu_int rfl T.b_int (by decide +kernel) (pa_cons (pe_cmpR uo_lt (uv 4) pe_int (nomark _)) pa_nil))))
    (pss_cons (ps_asg (pe_op uo_div (pe_callTy cu_int rfl T.b_int (by decide +kernel) (pa_cons (uv 5) pa_nil)) (uv 1)) (pg_sub (uv 0) pe_int (uset (hu_of hr))))
    (pss_one (ps_ret (pe_op uo_mod (pe_callTy cu_int rfl T.b_int (by decide +kernel) (pa_cons (uv 5) pa_nil)) (uv 1)))))) pss_nil)
    (pss_cons (us_set 6 sc_law_draw.nd (pe_op uo_mod (pe_callTy cu_int rfl T.b_int (by decide +kernel) (pa_cons (pe_op uo_pow (pe_op uo_add (pe_op uo_add (pe_op uo_mod (pe_callTy cu_int rfl T.b_int (by decide +kernel) (pa_cons (uv 4) pa_nil)) pe_int) (pe_op uo_mul pe_int (uv 3))) pe_int) pe_int) pa_nil)) pe_int))
    (pss_cons (us_set 6 sc_law_draw.nd (pe_op uo_mod (pe_callTy cu_int rfl T.b_int (by decide +kernel) (pa_cons (pe_op uo_pow (pe_op uo_add (pe_op uo_add (pe_op uo_mul (uv 6) (pe_op uo_add (pe_op uo_mul pe_int (uv 3)) pe_int)) (pe_op uo_mul (pe_op uo_mul pe_int (uv 3)) (uv 3))) pe_int) pe_int) pa_nil)) pe_int))
    (pss_one (ps_ret (pe_op uo_mod (pe_callTy cu_int rfl T.b_int (by decide +kernel) (pa_cons (pe_op uo_div (uv 6) pe_int) pa_nil)) (uv 1)))))))))))
theorem ok_law_draw {P : Program} {w : World} {K : PySem.W.Frag} {mg : Str → Option Value} {base : Heap} (T : Top K mg)   :
    ∃ fd, FnP K "_law_draw" "_law_draw" s_law_draw (He.ga K "_law_draw") fd ∧ FnOk P w K mg base CX0 1 (He.ga K "_law_draw") fd ["pen", "many"] (sp_law_draw K) :=
  let ⟨fd, F⟩ := T.d_law_draw
  ⟨fd, F, fk_law_draw T  F⟩
theorem cl_law_draw {P : Program} {w : World} {K : PySem.W.Frag} {mg : Str → Option Value} {base : Heap} (T : Top K mg) (h : ∃ fd, FnP K "_law_draw" "_law_draw" s_law_draw (He.ga K "_law_draw") fd ∧ FnOk P w K mg base CX0 1 (He.ga K "_law_draw") fd ["pen", "many"] (sp_law_draw K)) :
    CalL P w K mg base "_law_draw" 1 ["pen", "many"] (sp_law_draw K) := by
  obtain ⟨fd, F, h⟩ := h
  exact ⟨⟨fd, h, F.bindsN fun _ _ _ _ _ _ us hl => match us, hl with | [_, _], _ => rfl⟩, T.a_law_draw, F.kp⟩
theorem fk_law_is_name {P : Program} {w : World} {K : PySem.W.Frag} {mg : Str → Option Value} {base : Heap} (T : Top K mg)  
    {fd : FuncData} (F : FnP K "_law_is_name" "_law_is_name" s_law_is_name (He.ga K "_law_is_name") fd) : FnOk P w K mg base CX0 1 (He.ga K "_law_is_name") fd ["text"] (sp_law_is_name K) := by
  refine F.ok sc_law_is_name ln_law_is_name (fun cdv A outer s H vs Q E hr h => ⟨t_law_is_name K, PSs.nox ?_, pu_law_is_name vs H Q E h⟩)
  exact (pss_cons (us_set 1 sc_law_is_name.nd pe_str)
    (pss_cons (ps_if (PW.pt (pw_or (utc (uo_eq hr.units) (pe_callB cu_len rfl T.b_len (by decide +kernel) (pa_cons (uv 0) pa_nil)) pe_int (nomark _)) (pw_or (utc uo_gt (pe_callB cu_len rfl T.b_len (by decide +kernel) (pa_cons (uv 0) pa_nil)) pe_int (nomark _)) (pw_or1 (utc (uo_nin (hu65 hr)) (pe_ix (ux (hu_of hr)) (uv 0) pe_int (fun _ _ => rfl)) (uv 1) (by with_unfolding_all rfl)))))) (pss_one (ps_ret pe_bl)) pss_nil)
    (pss_one (ps_ret (pe_cmpR (uo_eq hr.units) (pe_lc (own := [("sign", 2)]) rfl sc_law_is_name.nd (ui (uv 0)) (blkOk_by (own := [("sign", 2)]) (by kernel_rfl)) (fun _ _ _ _ _ => (ugn 2 sc_law_is_name.nd)) (fun _ _ _ _ _ => (pts_one (utc (uo_nin (hu65 hr)) (uv 2) (pe_op uo_add (uv 1) pe_str) (by with_unfolding_all rfl)))) (fun _ _ _ _ _ => (uv 2))) (pe_lst pa_nil) (nomark _))))))
theorem ok_law_is_name {P : Program} {w : World} {K : PySem.W.Frag} {mg : Str → Option Value} {base : Heap} (T : Top K mg)   :
    ∃ fd, FnP K "_law_is_name" "_law_is_name" s_law_is_name (He.ga K "_law_is_name") fd ∧ FnOk P w K mg base CX0 1 (He.ga K "_law_is_name") fd ["text"] (sp_law_is_name K) :=
  let ⟨fd, F⟩ := T.d_law_is_name
  ⟨fd, F, fk_law_is_name T  F⟩
theorem cl_law_is_name {P : Program} {w : World} {K : PySem.W.Frag} {mg : Str → Option Value} {base : Heap} (T : Top K mg) (h : ∃ fd, FnP K "_law_is_name" "_law_is_name" s_law_is_name (He.ga K "_law_is_name") fd ∧ FnOk P w K mg base CX0 1 (He.ga K "_law_is_name") fd ["text"] (sp_law_is_name K)) :
    CalL P w K mg base "_law_is_name" 1 ["text"] (sp_law_is_name K) := by
  obtain ⟨fd, F, h⟩ := h
  exact ⟨⟨fd, h, F.bindsN fun _ _ _ _ _ _ us hl => match us, hl with | [_], _ => rfl⟩, T.a_law_is_name, F.kp⟩
theorem fk_is_within {P : Program} {w : World} {K : PySem.W.Frag} {mg : Str → Option Value} {base : Heap} (T : Top K mg) (g_is_integer : CalL P w K mg base "is_integer" 1 ["value"] (sp_is_integer K)) 
    {fd : FuncData} (F : FnP K "is_within" "is_within" s_is_within (He.ga K "is_within") fd) : FnOk P w K mg base CX0 2 (He.ga K "is_within") fd ["value", "least", "most"] (sp_is_within K) := by
  refine F.ok sc_is_within ln_is_within (fun cdv A outer s H vs Q E hr h => ⟨t_is_within K, PSs.nox ?_, pu_is_within vs H Q E h⟩)
  exact (pss_one (ps_ret (ue_and (ucall g_is_integer (hr.mono (by decide)) rfl pass0 (pa_cons (uv 0) pa_nil)) (pe_one (ue_chain uo_le uo_le (uv 1) (uv 0) (uv 2))))))
theorem ok_is_within {P : Program} {w : World} {K : PySem.W.Frag} {mg : Str → Option Value} {base : Heap} (T : Top K mg) (g_is_integer : CalL P w K mg base "is_integer" 1 ["value"] (sp_is_integer K))  :
    ∃ fd, FnP K "is_within" "is_within" s_is_within (He.ga K "is_within") fd ∧ FnOk P w K mg base CX0 2 (He.ga K "is_within") fd ["value", "least", "most"] (sp_is_within K) :=
  let ⟨fd, F⟩ := T.d_is_within
  ⟨fd, F, fk_is_within T g_is_integer F⟩
theorem cl_is_within {P : Program} {w : World} {K : PySem.W.Frag} {mg : Str → Option Value} {base : Heap} (T : Top K mg) (h : ∃ fd, FnP K "is_within" "is_within" s_is_within (He.ga K "is_within") fd ∧ FnOk P w K mg base CX0 2 (He.ga K "is_within") fd ["value", "least", "most"] (sp_is_within K)) :
    CalL P w K mg base "is_within" 2 ["value", "least", "most"] (sp_is_within K) := by
  obtain ⟨fd, F, h⟩ := h
  exact ⟨⟨fd, h, F.bindsN fun _ _ _ _ _ _ us hl => match us, hl with | [_, _, _], _ => rfl⟩, T.a_is_within, F.kp⟩
theorem fk_law_pick {P : Program} {w : World} {K : PySem.W.Frag} {mg : Str → Option Value} {base : Heap} (T : Top K mg) (g_law_draw : CalL P w K mg base "_law_draw" 1 ["pen", "many"] (sp_law_draw K)) 
    {fd : FuncData} (F : FnP K "_law_pick" "_law_pick" s_law_pick (He.ga K "_law_pick") fd) : FnOk P w K mg base CX0 2 (He.ga K "_law_pick") fd ["pen", "some"] (sp_law_pick K) := by
  refine F.ok sc_law_pick ln_law_pick (fun cdv A outer s H vs Q E hr h => ⟨t_law_pick K, PSs.nox ?_, pu_law_pick vs H Q E h⟩)
  exact (pss_one (ps_ret (pe_ix (ux (hu_of hr)) (uv 1) (ucall g_law_draw (hr.mono (by decide)) rfl pass0 (pa_cons (uv 0) (pa_cons (pe_callB cu_len rfl T.b_len (by decide +kernel) (pa_cons (uv 1) pa_nil)) pa_nil))) (fun _ _ => rfl))))
theorem ok_law_pick {P : Program} {w : World} {K : PySem.W.Frag} {mg : Str → Option Value} {base : Heap} (T : Top K mg) (g_law_draw : CalL P w K mg base "_law_draw" 1 ["pen", "many"] (sp_law_draw K))  :
    ∃ fd, FnP K "_law_pick" "_law_pick" s_law_pick (He.ga K "_law_pick") fd ∧ FnOk P w K mg base CX0 2 (He.ga K "_law_pick") fd ["pen", "some"] (sp_law_pick K) :=
  let ⟨fd, F⟩ := T.d_law_pick
  ⟨fd, F, fk_law_pick T g_law_draw F⟩
theorem cl_law_pick {P : Program} {w : World} {K : PySem.W.Frag} {mg : Str → Option Value} {base : Heap} (T : Top K mg) (h : ∃ fd, FnP K "_law_pick" "_law_pick" s_law_pick (He.ga K "_law_pick") fd ∧ FnOk P w K mg base CX0 2 (He.ga K "_law_pick") fd ["pen", "some"] (sp_law_pick K)) :
    CalL P w K mg base "_law_pick" 2 ["pen", "some"] (sp_law_pick K) := by
  obtain ⟨fd, F, h⟩ := h
  exact ⟨⟨fd, h, F.bindsN fun _ _ _ _ _ _ us hl => match us, hl with | [_, _], _ => rfl⟩, T.a_law_pick, F.kp⟩
theorem fk_law_text {P : Program} {w : World} {K : PySem.W.Frag} {mg : Str → Option Value} {base : Heap} (T : Top K mg) (g_law_draw : CalL P w K mg base "_law_draw" 1 ["pen", "many"] (sp_law_draw K)) (g_law_pick : CalL P w K mg base "_law_pick" 2 ["pen", "some"] (sp_law_pick K)) 
    {fd : FuncData} (F : FnP K "_law_text" "_law_text" s_law_text (He.ga K "_law_text") fd) : FnOk P w K mg base CX0 3 (He.ga K "_law_text") fd ["pen"] (sp_law_text K) := by
  refine F.ok sc_law_text ln_law_text (fun cdv A outer s H vs Q E hr h => ⟨t_law_text K, PSs.nox ?_, pu_law_text vs H Q E h⟩)
  exact (pss_cons (ps_asg (pe_tup (pa_cons pe_str (pa_cons (ucall g_law_pick (hr.mono (by decide)) rfl pass0 (pa_cons (uv 0) (pa_cons (pe_lst (pa_cons pe_str (pa_cons pe_str (pa_cons pe_str (pa_cons pe_str (pa_cons pe_str (pa_cons pe_str (pa_cons pe_str (pa_cons pe_str (pa_cons pe_str (pa_cons pe_str (pa_cons pe_str (pa_cons pe_str pa_nil))))))))))))) pa_nil))) pa_nil))) (pg_tup (by rfl) (pgs_cons (ugn 1 sc_law_text.nd) (pgs_cons (ugn 2 sc_law_text.nd) pgs_nil))))
    (pss_cons (us_set 3 sc_law_text.nd (pe_op uo_add (uv 2) (pe_join pe_str (pe_lc (own := [("turn", 5)]) rfl sc_law_text.nd (pi_range1 rfl T.b_range (pa_cons (ucall g_law_pick (hr.mono (by decide)) rfl pass0 (pa_cons (uv 0) (pa_cons (pe_lst (pa_cons pe_int (pa_cons pe_int (pa_cons pe_int (pa_cons pe_int (pa_cons pe_int (pa_cons pe_int (pa_cons pe_int pa_nil)))))))) pa_nil))) pa_nil)) (blkOk_by (own := [("turn", 5)]) (by kernel_rfl)) (fun _ _ _ _ _ => (ugn 5 sc_law_text.nd)) (fun _ _ _ _ _ => pts_nil) (fun _ _ _ _ _ => (ucall g_law_pick (hr.mono (by decide)) rfl pass0 (pa_cons (uv 0) (pa_cons (uv 1) pa_nil))))))))
    (pss_cons (ps_if (utc (uo_eq hr.units) (ucall g_law_draw (hr.mono (by decide)) rfl pass0 (pa_cons (uv 0) (pa_cons pe_int pa_nil))) pe_int (nomark _)) (pss_cons (us_set 4 sc_law_text.nd (ucall g_law_draw (hr.mono (by decide)) rfl pass0 (pa_cons (uv 0) (pa_cons (pe_op uo_add (pe_callB cu_len rfl T.b_len (by decide +kernel) (pa_cons (uv 3) pa_nil)) pe_int) pa_nil))))
    (pss_one (us_set 3 sc_law_text.nd (pe_op uo_add (pe_op uo_add (pe_slice us (uv 3) po_none (upo (uv 4))) (ucall g_law_pick (hr.mono (by decide)) rfl pass0 (pa_cons (uv 0) (pa_cons (pe_lst (pa_cons pe_str (pa_cons pe_str (pa_cons pe_str (pa_cons pe_str (pa_cons pe_str (pa_cons pe_str (pa_cons pe_str (pa_cons pe_str (pa_cons pe_str (pa_cons pe_str pa_nil))))))))))) pa_nil)))) (pe_slice us (uv 3) (upo (uv 4)) po_none))))) pss_nil)
    (pss_one (ps_ret (uv 3))))))
theorem ok_law_text {P : Program} {w : World} {K : PySem.W.Frag} {mg : Str → Option Value} {base : Heap} (T : Top K mg) (g_law_draw : CalL P w K mg base "_law_draw" 1 ["pen", "many"] (sp_law_draw K)) (g_law_pick : CalL P w K mg base "_law_pick" 2 ["pen", "some"] (sp_law_pick K))  :
    ∃ fd, FnP K "_law_text" "_law_text" s_law_text (He.ga K "_law_text") fd ∧ FnOk P w K mg base CX0 3 (He.ga K "_law_text") fd ["pen"] (sp_law_text K) :=
  let ⟨fd, F⟩ := T.d_law_text
  ⟨fd, F, fk_law_text T g_law_draw g_law_pick F⟩
theorem cl_law_text {P : Program} {w : World} {K : PySem.W.Frag} {mg : Str → Option Value} {base : Heap} (T : Top K mg) (h : ∃ fd, FnP K "_law_text" "_law_text" s_law_text (He.ga K "_law_text") fd ∧ FnOk P w K mg base CX0 3 (He.ga K "_law_text") fd ["pen"] (sp_law_text K)) :
    CalL P w K mg base "_law_text" 3 ["pen"] (sp_law_text K) := by
  obtain ⟨fd, F, h⟩ := h
  exact ⟨⟨fd, h, F.bindsN fun _ _ _ _ _ _ us hl => match us, hl with | [_], _ => rfl⟩, T.a_law_text, F.kp⟩
theorem fk_law {P : Program} {w : World} {K : PySem.W.Frag} {mg : Str → Option Value} {base : Heap} (T : Top K mg) (g_law_draw : CalL P w K mg base "_law_draw" 1 ["pen", "many"] (sp_law_draw K)) (g_law_is_name : CalL P w K mg base "_law_is_name" 1 ["text"] (sp_law_is_name K)) (g_law_pen : CalL P w K mg base "_law_pen" 1 ["script"] (sp_law_pen K)) (g_law_text : CalL P w K mg base "_law_text" 3 ["pen"] (sp_law_text K)) (g_is_integer : CalL P w K mg base "is_integer" 1 ["value"] (sp_is_integer K)) (g_is_name : CalL P w K mg base "is_name" 1 ["value"] (sp_is_name K)) (g_is_within : CalL P w K mg base "is_within" 2 ["value", "least", "most"] (sp_is_within K)) (k_is_integer_value : CalK P w K mg base "is_integer" 1 ["value"] ["value"] [0] (sp_is_integer K)) (k_is_name_value : CalK P w K mg base "is_name" 1 ["value"] ["value"] [0] (sp_is_name K)) (k_is_within_most_least_value : CalK P w K mg base "is_within" 2 ["value", "least", "most"] ["most", "least", "value"] [2, 1, 0] (sp_is_within K))
    {fd : FuncData} (F : FnP K "law" "law" s_law (He.ga K "law") fd) : FnOk P w K mg base CX0 4 (He.ga K "law") fd ["script"] (sp_law K) := by
  refine F.ok sc_law ln_law (fun cdv A outer s H vs Q E hr h => ⟨t_law K, PSs.nox ?_, pu_law vs H Q E h⟩)
  exact (pss_cons (us_set 1 sc_law.nd (ucall g_law_pen (hr.mono (by decide)) rfl pass0 (pa_cons (uv 0) pa_nil)))
    (pss_cons (ps_for PassesOwn.never rfl (pi_range1 rfl T.b_range (pa_cons pe_int pa_nil)) (ugn 2 sc_law.nd) (pss_cons (us_set 3 sc_law.nd (ucall g_law_text (hr.mono (by decide)) rfl pass0 (pa_cons (uv 1) pa_nil)))
    (pss_cons (ps_if (PW.pt (pw_or (utc (uo_ne hr.units) (pe_callB cu_reprS rfl T.b_repr (by decide +kernel) (pa_cons (ucall g_is_name (hr.mono (by decide)) rfl pass0 (pa_cons (uv 3) pa_nil)) pa_nil)) (pe_callB cu_reprS rfl T.b_repr (by decide +kernel) (pa_cons (ucall g_law_is_name (hr.mono (by decide)) rfl pass0 (pa_cons (uv 3) pa_nil)) pa_nil)) (nomark _)) (pw_or1 (utc (uo_ne hr.units) (pe_callB cu_reprS rfl T.b_repr (by decide +kernel) (pa_cons (ucallk0 k_is_name_value (hr.mono (by decide)) rfl pass0 (pk_cons (uv 3) pk_nil)) pa_nil)) (pe_callB cu_reprS rfl T.b_repr (by decide +kernel) (pa_cons (ucall g_law_is_name (hr.mono (by decide)) rfl pass0 (pa_cons (uv 3) pa_nil)) pa_nil)) (nomark _))))) (pss_one (ps_ret pe_bl)) pss_nil)
    (pss_cons (ps_par (i := 4) (j := 5) (by rfl) sc_law.nd rfl rfl (by decide) rfl rfl (pa_cons (pe_op uo_sub (ucall g_law_draw (hr.mono (by decide)) rfl pass0 (pa_cons (uv 1) (pa_cons pe_int pa_nil))) pe_int) (pa_cons (pe_op uo_sub (ucall g_law_draw (hr.mono (by decide)) rfl pass0 (pa_cons (uv 1) (pa_cons pe_int pa_nil))) pe_int) pa_nil)) (by rfl))
    (pss_cons (us_set 6 sc_law.nd (pe_op uo_sub (pe_op uo_add (uv 5) (ucall g_law_draw (hr.mono (by decide)) rfl pass0 (pa_cons (uv 1) (pa_cons pe_int pa_nil)))) pe_int))
    (pss_cons (ps_if (PW.pt (pw_or (utc (uo_ne hr.units) (pe_callB cu_reprS rfl T.b_repr (by decide +kernel) (pa_cons (ucall g_is_within (hr.mono (by decide)) rfl pass0 (pa_cons (uv 4) (pa_cons (uv 5) (pa_cons (uv 6) pa_nil)))) pa_nil)) (pe_callB cu_reprS rfl T.b_repr (by decide +kernel) (pa_cons (ue_and (pe_cmpR uo_le (uv 5) (uv 4) (nomark _)) (pe_one (pe_cmpR uo_le (uv 4) (uv 6) (nomark _)))) pa_nil)) (nomark _)) (pw_or1 (utc uo_isnt (ucall g_is_within (hr.mono (by decide)) rfl pass0 (pa_cons (uv 4) (pa_cons (uv 4) (pa_cons (uv 4) pa_nil)))) pe_bl (nomark _))))) (pss_one (ps_ret pe_bl)) pss_nil)
    (pss_one (ps_if (PW.pt (pw_or (utc uo_isnt (ucallk0 k_is_within_most_least_value (hr.mono (by decide)) rfl pass0 (pk_cons (uv 6) (pk_cons (uv 5) (pk_cons (pe_callTy cu_bool rfl T.b_bool (by decide +kernel) (pa_cons (pe_op uo_mod (uv 4) pe_int) pa_nil)) pk_nil)))) pe_bl (nomark _)) (pw_or1 (utc uo_isnt (ucall g_is_integer (hr.mono (by decide)) rfl pass0 (pa_cons (uv 4) pa_nil)) pe_bl (nomark _))))) (pss_one (ps_ret pe_bl)) pss_nil))))))))
    (pss_cons (ps_for PassesOwn.never rfl (ui (pe_lst (pa_cons pe_non (pa_cons pe_bl (pa_cons pe_bl (pa_cons pe_str (pa_cons pe_str (pa_cons (pe_tup pa_nil) (pa_cons (pe_tup (pa_cons pe_int pa_nil)) (pa_cons (pe_lst (pa_cons pe_int pa_nil)) (pa_cons pe_dnewK (pa_cons (pe_disp (pps_cons pe_int pe_int pps_nil) (by rfl) (by rfl) (fun z => by cases z) (by decide)) (pa_cons (pe_lst (pa_cons (pe_lst pa_nil) pa_nil)) pa_nil))))))))))))) (ugn 7 sc_law.nd) (pss_cons (ps_if (PW.pt (pw_or (utc uo_isnt (ucall g_is_integer (hr.mono (by decide)) rfl pass0 (pa_cons (uv 7) pa_nil)) pe_bl (nomark _)) (pw_or1 (utc uo_isnt (ucall g_is_within (hr.mono (by decide)) rfl pass0 (pa_cons (uv 7) (pa_cons (pe_un uo_neg pe_int) (pa_cons pe_int pa_nil)))) pe_bl (nomark _))))) (pss_one (ps_ret pe_bl)) pss_nil)
    (pss_one (ps_if (PW.pt (pw_and (pt_not (ut (pe_callB (call_is1 .str) rfl T.b_isinstance boot_isinstance (pa_cons (uv 7) (pa_cons (pe_bltn rfl T.b_str (by decide +kernel) rfl) pa_nil))))) (pw_and1 (utc uo_isnt (ucall g_is_name (hr.mono (by decide)) rfl pass0 (pa_cons (uv 7) pa_nil)) pe_bl (nomark _))))) (pss_one (ps_ret pe_bl)) pss_nil))))
    (pss_one (ps_ret (ue_and (pe_cmpR uo_is (ucallk0 k_is_integer_value (hr.mono (by decide)) rfl pass0 (pk_cons (pe_op uo_pow pe_int pe_int) pk_nil)) pe_bl (nomark _)) (ue_and (pe_cmpR uo_is (ucall g_is_name (hr.mono (by decide)) rfl pass0 (pa_cons (pe_op uo_mul pe_str pe_int) pa_nil)) pe_bl (nomark _)) (ue_and (pe_cmpR uo_is (ucall g_is_name (hr.mono (by decide)) rfl pass0 (pa_cons (pe_op uo_mul pe_str pe_int) pa_nil)) pe_bl (nomark _)) (pe_one (pe_cmpR uo_is (ucall g_is_name (hr.mono (by decide)) rfl pass0 (pa_cons (pe_lst (pa_cons pe_str pa_nil)) pa_nil)) pe_bl (nomark _)))))))))))
theorem ok_law {P : Program} {w : World} {K : PySem.W.Frag} {mg : Str → Option Value} {base : Heap} (T : Top K mg) (g_law_draw : CalL P w K mg base "_law_draw" 1 ["pen", "many"] (sp_law_draw K)) (g_law_is_name : CalL P w K mg base "_law_is_name" 1 ["text"] (sp_law_is_name K)) (g_law_pen : CalL P w K mg base "_law_pen" 1 ["script"] (sp_law_pen K)) (g_law_text : CalL P w K mg base "_law_text" 3 ["pen"] (sp_law_text K)) (g_is_integer : CalL P w K mg base "is_integer" 1 ["value"] (sp_is_integer K)) (g_is_name : CalL P w K mg base "is_name" 1 ["value"] (sp_is_name K)) (g_is_within : CalL P w K mg base "is_within" 2 ["value", "least", "most"] (sp_is_within K)) (k_is_integer_value : CalK P w K mg base "is_integer" 1 ["value"] ["value"] [0] (sp_is_integer K)) (k_is_name_value : CalK P w K mg base "is_name" 1 ["value"] ["value"] [0] (sp_is_name K)) (k_is_within_most_least_value : CalK P w K mg base "is_within" 2 ["value", "least", "most"] ["most", "least", "value"] [2, 1, 0] (sp_is_within K)) :
    ∃ fd, FnP K "law" "law" s_law (He.ga K "law") fd ∧ FnOk P w K mg base CX0 4 (He.ga K "law") fd ["script"] (sp_law K) :=
  let ⟨fd, F⟩ := T.d_law
  ⟨fd, F, fk_law T g_law_draw g_law_is_name g_law_pen g_law_text g_is_integer g_is_name g_is_within k_is_integer_value k_is_name_value k_is_within_most_least_value F⟩
theorem cl_law {P : Program} {w : World} {K : PySem.W.Frag} {mg : Str → Option Value} {base : Heap} (T : Top K mg) (h : ∃ fd, FnP K "law" "law" s_law (He.ga K "law") fd ∧ FnOk P w K mg base CX0 4 (He.ga K "law") fd ["script"] (sp_law K)) :
    CalL P w K mg base "law" 4 ["script"] (sp_law K) := by
  obtain ⟨fd, F, h⟩ := h
  exact ⟨⟨fd, h, F.bindsN fun _ _ _ _ _ _ us hl => match us, hl with | [_], _ => rfl⟩, T.a_law, F.kp⟩
theorem mk_is_integer_value {P : Program} {w : World} {K : PySem.W.Frag} {mg : Str → Option Value} {base : Heap} (T : Top K mg) (h : ∃ fd, FnP K "is_integer" "is_integer" s_is_integer (He.ga K "is_integer") fd ∧ FnOk P w K mg base CX0 1 (He.ga K "is_integer") fd ["value"] (sp_is_integer K)) :
    CalK P w K mg base "is_integer" 1 ["value"] ["value"] [0] (sp_is_integer K) := by
  obtain ⟨fd, F, h⟩ := h
  exact ⟨⟨fd, h, bindsKA F (fun _ _ _ _ _ _ ws hl => match ws, hl with | [_], _ => rfl)⟩, T.a_is_integer, F.kp⟩
theorem mk_is_name_value {P : Program} {w : World} {K : PySem.W.Frag} {mg : Str → Option Value} {base : Heap} (T : Top K mg) (h : ∃ fd, FnP K "is_name" "is_name" s_is_name (He.ga K "is_name") fd ∧ FnOk P w K mg base CX0 1 (He.ga K "is_name") fd ["value"] (sp_is_name K)) :
    CalK P w K mg base "is_name" 1 ["value"] ["value"] [0] (sp_is_name K) := by
  obtain ⟨fd, F, h⟩ := h
  exact ⟨⟨fd, h, bindsKA F (fun _ _ _ _ _ _ ws hl => match ws, hl with | [_], _ => rfl)⟩, T.a_is_name, F.kp⟩
theorem mk_is_within_most_least_value {P : Program} {w : World} {K : PySem.W.Frag} {mg : Str → Option Value} {base : Heap} (T : Top K mg) (h : ∃ fd, FnP K "is_within" "is_within" s_is_within (He.ga K "is_within") fd ∧ FnOk P w K mg base CX0 2 (He.ga K "is_within") fd ["value", "least", "most"] (sp_is_within K)) :
    CalK P w K mg base "is_within" 2 ["value", "least", "most"] ["most", "least", "value"] [2, 1, 0] (sp_is_within K) := by
  obtain ⟨fd, F, h⟩ := h
  exact ⟨⟨fd, h, bindsKA F (fun _ _ _ _ _ _ ws hl => match ws, hl with | [_, _, _], _ => rfl)⟩, T.a_is_within, F.kp⟩

/-- the law's promise, all defs together -/
theorem law_facts {P : Program} {w : World} {K : PySem.W.Frag} {h : Heap} {mg : Str → Option Value} {f : Addr} (X : K.In h) (G : h.Ns mainGlobals mg) (hfa : mg ("law" : Str) = some (.ref f)) (c : He.SaysD facts fns K) :
    ∃ fd : FuncData, (∀ (s : Shared) (v : Value), BindsTo s fd ⟨[v], []⟩ [("script", v)]) ∧ ∀ base : Heap, K.In base → base.Ns mainGlobals mg → FnOk P w K mg base CX0 4 f fd ["script"] (sp_law K) := by
  have T := top_mk X G c
  obtain ⟨fd, F⟩ := T.d_law
  have e := hfa.symm.trans T.a_law
  cases e
  have b := FunD.bindsA (ps := ["script"]) F fun _ _ _ _ _ _ us hl => match us, hl with | [_], _ => rfl
  refine ⟨fd, fun s v => b s [v] rfl, fun base _ _ => ?_⟩
  have o_is_integer := ok_is_integer (P := P) (w := w) (base := base) T 
  have g_is_integer := cl_is_integer T o_is_integer
  have k_is_integer_value := mk_is_integer_value T o_is_integer
  have o_is_name := ok_is_name (P := P) (w := w) (base := base) T 
  have g_is_name := cl_is_name T o_is_name
  have k_is_name_value := mk_is_name_value T o_is_name
  have o_law_pen := ok_law_pen (P := P) (w := w) (base := base) T 
  have g_law_pen := cl_law_pen T o_law_pen
  have o_law_draw := ok_law_draw (P := P) (w := w) (base := base) T 
  have g_law_draw := cl_law_draw T o_law_draw
  have o_law_is_name := ok_law_is_name (P := P) (w := w) (base := base) T 
  have g_law_is_name := cl_law_is_name T o_law_is_name
  have o_is_within := ok_is_within (P := P) (w := w) (base := base) T g_is_integer
  have g_is_within := cl_is_within T o_is_within
  have k_is_within_most_least_value := mk_is_within_most_least_value T o_is_within
  have o_law_pick := ok_law_pick (P := P) (w := w) (base := base) T g_law_draw
  have g_law_pick := cl_law_pick T o_law_pick
  have o_law_text := ok_law_text (P := P) (w := w) (base := base) T g_law_draw g_law_pick
  have g_law_text := cl_law_text T o_law_text
  exact fk_law T g_law_draw g_law_is_name g_law_pen g_law_text g_is_integer g_is_name g_is_within k_is_integer_value k_is_name_value k_is_within_most_least_value F
abbrev R : PySem.W.OpenRow := PySem.W.OpenLaw.row PySem.Challenge.rw_givesway_k01_checks_of_any_values
abbrev hk : PySem.W.Hook := He.hookD 4 facts fns
def ob (s : PySem.W.SharedT) : He.AlD := He.obsDG 4 facts fns (HandSHeadRun.getT s)
theorem ob_eq (s : PySem.W.SharedT) : ob s = hk.obs s.abs := He.obsDG_eq (HandSHeadRun.getT_eq s)
def names : List Str := (["__name__", "LETTERS", "SIGNS", "MOST_SIGNS", "is_integer", "is_within", "is_name", "_law_pen", "_law_draw", "_law_pick", "_law_stirred", "_law_text", "_law_is_name"] : List Str)
theorem run (w : World) : HandSHeadRun.RunEq R (PySem.W.view R.prog [14]) hk ob 4000 names w := by
  intro os
  kernel_rfl
end GW
open PySem PySem.W PySem.Calls PyProof.Rows
set_option maxRecDepth 100000 in
set_option maxHeartbeats 0 in
theorem PySem.Challenge.cw_givesway_k01_checks_of_any_values_holds : PySem.Challenge.rw_givesway_k01_checks_of_any_values.Holds := by
  w_on; o_law
  refine HandSHeadRun.head_any (r := OpenLaw.row PySem.Challenge.rw_givesway_k01_checks_of_any_values) (q := view (OpenLaw.row PySem.Challenge.rw_givesway_k01_checks_of_any_values).prog [14]) (H := GW.hk) (ob := GW.ob) (M := 4000) (loose := GW.names) (d := HandSHeadRun.topDef (OpenLaw.row PySem.Challenge.rw_givesway_k01_checks_of_any_values).prog 14) (kwd := []) GW.ob_eq
    (by kernel_rfl) (fun s => by kernel_rfl) GW.run (by kernel_rfl) (by kernel_rfl) (by kernel_rfl) (by rfl) (by first | assumption | decide +kernel) (by decide +kernel) ⟨rfl, rfl, rfl, rfl, rfl, by decide +kernel⟩ ?hw ?hc
  case hw => w_witness2
  case hc =>
    refine L2.walk_ofE (l := PySem.Challenge.rw_givesway_k01_checks_of_any_values) (n := 63) (k := 4) (x := "script") (CX := L2.CX0) rfl (by decide) (by kernel_rfl) ⟨rfl, by decide, by decide⟩ ?F (fun _ _ _ _ z => z)
    intro w mg fa h Y G hmg0
    obtain ⟨K, KX, c⟩ := Y
    have hmg : mg ("law" : PySem.Str) = some (.ref fa) := by
      have e : (HandSHeadRun.topDef (OpenLaw.row PySem.Challenge.rw_givesway_k01_checks_of_any_values).prog 14).name = ("law" : PySem.Str) := by kernel_rfl
      rw [← e]
      exact hmg0
    obtain ⟨fd, hb, hF⟩ := GW.law_facts (P := (PySem.Challenge.rw_givesway_k01_checks_of_any_values).prog) (w := w) KX G hmg c
    exact ⟨K, fd, GW.sp_law K, KX, hb, fun H a ns hl _ hS => ⟨a, ns, rfl, hS, hl, fun _ => rfl⟩, hF⟩
