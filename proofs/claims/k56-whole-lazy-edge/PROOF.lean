import PyProof.Rows.All
import Wide.All
import OpenK.AllK
import Wide.FinOn
import KE.KStateDown
import HandS.ForMost
import HandS.Exc
import HandS.ExcOwn
import HandS.TryOnly
import HandS.WordsExc
import HandS.Defaults
import HandS.Wide
import HandS.FStr
import HandS.IsInst
import HandS.More
import HandS.StrMore
import HandS.Property
import OpenK.KOps
import OpenK.KMeth
import PyProof.SumWalkG
import PyProof.WalksMore
import HandS.Flt
import HandS.Star
import KE.KExcSuper
import HandS.ExcInit
import HandS.ClsMeth
import HandS.ExcIs
import HandS.ExcField
import HandS.HotCalls
import KE.GoesEnumKw
import PyProof.Rows.CallKwBuiltin
import HandS.Head0
import HandS.Head1
import HandS.Head2
import HandS.HeadEnd
import HandS.HeadHook1
import HandS.HeadHook2
import HandS.New0
import HandS.Conv
import HandS.Style
import HandS.Dict
import HandS.SetFor
import PyProof.Rows.RegReprOcc
import Wide.Txt
import PyProof.Rows.RegStrFacts
import HandS.Codes
import HandS.Walk
import HandS.MakeKwOnly
import PySem.Challenge.RW_carrylog_k56_whole_lazy_edge
set_option Elab.async false
set_option linter.all false
set_option maxRecDepth 100000
set_option maxHeartbeats 4000000
namespace Cy
open PySem PySem.Spec PyProof.Rows L2
abbrev St := L2.St

theorem PE.imp {X : Cx} {e : Expr} {t t' : TE} (p : PE X e t) (h : ∀ σ H Q, t' σ H Q → t σ H Q) : PE X e t' := ⟨fun pins s σ H Q I q => p.run pins s σ H Q I (h _ _ _ q)⟩
theorem PT.imp {X : Cx} {e : Expr} {t t' : TT} (p : PT X e t) (h : ∀ σ H Q, t' σ H Q → t σ H Q) : PT X e t' := ⟨fun pins s σ H Q I q => p.run pins s σ H Q I (h _ _ _ q)⟩

def sl : St → Nat → Option V
  | [], _ => none
  | o :: _, 0 => o
  | _ :: r, i + 1 => sl r i
theorem sl_get : ∀ {σ : St} {i : Nat} {v : V}, sl σ i = some v → σ[i]? = some (some v)
  | [], _, _, h => nomatch h
  | o :: r, 0, v, h => by
    have h : o = some v := h
    rw [h] <;> rfl
  | o :: r, i + 1, v, h => by
    rw [List.getElem?_cons_succ]
    exact sl_get (σ := r) h
def cV (i : Nat) : TE := fun σ H Q => match sl σ i with
  | some v => Q v H
  | none => False
theorem cv {X : Cx} (i : Nat) {x : Str} {pos : Pos} (hN : X.N[i]? = some x := by rfl) (hv : Vis X.env.scope x := by first | exact Or.inl rfl | exact Or.inr (Or.inl rfl) | exact Or.inr (Or.inr rfl)) (hd : (x == ("__debug__" : Str)) = false := by decide)
    (hcd : (x == ("__classdict__" : Str)) = false := by decide) : PE X (.Name x pos) (cV i) := PE.imp (pe_var hN hv hd hcd) fun σ H Q h => by
  unfold cV at h
  cases e : sl σ i with
  | none => rw [e] at h; exact h.elim
  | some v => rw [e] at h; exact ⟨v, sl_get e, h⟩

section
variable {X : Cx}
/-- + of two objects -/
inductive AddR (K : PySem.W.Frag) (ow : Addr → Addr → Hp → VK → Prop) (p q : Addr) (H : Hp) (Q : VK) : Prop where
  | lst (xs zs : List V) (h1 : H p = some (.lst xs)) (h2 : H q = some (.lst zs)) (hl : xs.length + zs.length ≤ sizeLine) (k : ∀ r, H r = none → Q (.ref r) (upd H r (.lst (xs ++ zs))))
  | tup (xs zs : List V) (h1 : SqT K H p xs) (h2 : SqT K H q zs) (hn : xs ≠ []) (hm : zs ≠ []) (hl : xs.length + zs.length ≤ sizeLine) (k : ∀ r, H r = none → Q (.ref r) (upd H r (.tup (xs ++ zs))))
  | own (h : ow p q H Q)
def noOw : Addr → Addr → Hp → VK → Prop := fun _ _ _ _ => False
def cAdd (K : PySem.W.Frag) (ow : Addr → Addr → Hp → VK → Prop) : R2 := fun x y H Q => match x, y with
  | .int i, .int j => Q (.int (i + j)) H
  | .str a, .str b => a.length + b.length ≤ sizeLine ∧ Q (.str (a ++ b)) H
  | .int i, .bl k => Q (.int (i + b2i k)) H
  | .ref p, .ref q => AddR K ow p q H Q
  | _, _ => False
/-- what an own + is worth -/
def OwOk (X : Cx) (ow : Addr → Addr → Hp → VK → Prop) : Prop := OpR X (binaryOp .Add) fun x y H Q => ∃ p q, x = .ref p ∧ y = .ref q ∧ ow p q H Q
theorem noOw_ok : OwOk X noOw := fun _ _ _ _ _ _ _ _ _ _ _ _ h => by
  obtain ⟨_, _, _, _, z⟩ := h
  exact z.elim
theorem op_cAdd {ow : Addr → Addr → Hp → VK → Prop} (ok : OwOk X ow) : OpR X (binaryOp .Add) (cAdd X.K ow) := by
  intro pins s σ H x y v u Q I rx ry h
  cases x <;> cases y <;> first
    | exact (show False from h).elim
    | exact op_add pins s σ H _ _ v u Q I rx ry ⟨_, _, rfl, rfl, h⟩
    | exact op_add_str pins s σ H _ _ v u Q I rx ry ⟨_, _, rfl, rfl, h.1, h.2⟩
    | exact op_add_ib pins s σ H _ _ v u Q I rx ry ⟨_, _, rfl, rfl, h⟩
    | skip
  rename_i p q
  have h : AddR X.K ow p q H Q := h
  cases h with
  | lst xs zs h1 h2 hl k => exact op_cat pins s σ H _ _ v u Q I rx ry ⟨_, _, _, _, rfl, rfl, h1, h2, hl, k⟩
  | tup xs zs h1 h2 hn hm hl k => exact op_catT pins s σ H _ _ v u Q I rx ry ⟨_, _, _, _, rfl, rfl, h1, h2, hn, hl, fun z => absurd z hm, fun _ => k⟩
  | own h => exact ok pins s σ H _ _ v u Q I rx ry ⟨p, q, rfl, rfl, h⟩
def cI2 (C : Int → Int → Prop) (g : Int → Int → V) : R2 := fun x y H Q => match x, y with
  | .int i, .int j => C i j ∧ Q (g i j) H
  | _, _ => False
def cI0 (g : Int → Int → V) : R2 := fun x y H Q => match x, y with
  | .int i, .int j => Q (g i j) H
  | _, _ => False
theorem op_cI2 {f : Value → Value → Sem Value} {C : Int → Int → Prop} {g : Int → Int → V} (p : OpR X f (rI C g)) : OpR X f (cI2 C g) := by
  intro pins s σ H x y v u Q I rx ry h
  cases x <;> cases y <;> first
    | exact (show False from h).elim
    | exact p pins s σ H _ _ v u Q I rx ry ⟨_, _, rfl, rfl, h.1, h.2⟩
theorem op_cI0 {f : Value → Value → Sem Value} {g : Int → Int → V} (p : OpR X f (rI0 g)) : OpR X f (cI0 g) := by
  intro pins s σ H x y v u Q I rx ry h
  cases x <;> cases y <;> first
    | exact (show False from h).elim
    | exact p pins s σ H _ _ v u Q I rx ry ⟨_, _, rfl, rfl, h⟩
abbrev cSub : R2 := cI0 fun i j => .int (i - j)
theorem op_cSub : OpR X (binaryOp .Sub) cSub := op_cI0 op_sub
abbrev cDiv : R2 := cI2 CDivW fun i j => .int (i / j)
theorem op_cDiv : OpR X (binaryOp .FloorDiv) cDiv := op_cI2 op_fdivW
abbrev cMod : R2 := cI2 (fun _ j => 0 < j) fun i j => .int (i % j)
theorem op_cMod : OpR X (binaryOp .Mod) cMod := op_cI2 op_mod
abbrev cPow : R2 := cI2 CPow fun i j => .int (i ^ j.toNat)
theorem op_cPow : OpR X (binaryOp .Pow) cPow := op_cI2 op_pow
inductive MulR (H : Hp) (Q : VK) (p : Addr) (k : Int) : Prop where
  | lst (xs : List V) (h : H p = some (.lst xs)) (h1 : -(2 ^ 63) ≤ k) (h2 : k < 2 ^ 63) (hl : xs.length * k.toNat ≤ sizeLine) (kk : ∀ q, H q = none → Q (.ref q) (upd H q (.lst (List.replicate k.toNat xs).flatten)))
def cMul : R2 := fun x y H Q => match x, y with
  | .int i, .int j => CMulW i j ∧ Q (.int (i * j)) H
  | .ref p, .int k => MulR H Q p k
  | .str z, .int k => MulOk z k ∧ Q (.str (Txt.mul z k)) H
  | _, _ => False
theorem op_cMul : OpR X (binaryOp .Mult) cMul := by
  intro pins s σ H x y v u Q I rx ry h
  cases x <;> cases y <;> first
    | exact (show False from h).elim
    | exact op_mulW pins s σ H _ _ v u Q I rx ry ⟨_, _, rfl, rfl, h.1, h.2⟩
    | skip
  case str.int z k =>
    have h : MulOk z k ∧ Q (.str (Txt.mul z k)) H := h
    obtain ⟨t, rfl⟩ := rx
    obtain ⟨t', rfl⟩ := ry
    exact PySem.SB.mul h.1 fun t2 tk => ⟨.str (Txt.mul z k), H, I.tok tk, ⟨t2, rfl⟩, h.2⟩
  rename_i p k
  have h : MulR H Q p k := h
  obtain ⟨xs, h, h1, h2, hl, kk⟩ := h
  exact op_rep pins s σ H _ _ v u Q I rx ry ⟨_, _, _, rfl, rfl, h, h1, h2, hl, kk⟩

abbrev cLt : R2 := cI0 fun i j => .bl (decide (i < j))
abbrev cLe : R2 := cI0 fun i j => .bl (decide (i ≤ j))
abbrev cGt : R2 := cI0 fun i j => .bl (decide (j < i))
abbrev cGe : R2 := cI0 fun i j => .bl (decide (j ≤ i))
theorem op_cLt : OpR X (compareOp .Lt) cLt := op_cI0 op_lt
theorem op_cLe : OpR X (compareOp .LtE) cLe := op_cI0 op_le
theorem op_cGt : OpR X (compareOp .Gt) cGt := op_cI0 op_gt
theorem op_cGe : OpR X (compareOp .GtE) cGe := op_cI0 op_ge
/-- == of two objects -/
inductive EqR (K : PySem.W.Frag) (p q : Addr) (H : Hp) (neg : Bool) (Q : VK) : Prop where
  | dat (d e : PyData) (h1 : Dp K H (.ref p) d) (h2 : Dp K H (.ref q) e) (h3 : SeqAt.shaped d = true) (h4 : SeqAt.shaped e = true) (k : Q (.bl (neg != PyData.eqv d e)) H)
def cEqN (K : PySem.W.Frag) (neg : Bool) : R2 := fun x y H Q => match x, y with
  | .int i, .int j => Q (.bl (neg != decide (i = j))) H
  | .str i, .str j => Q (.bl (neg != decide (i = j))) H
  | .bl i, .bl j => Q (.bl (neg != decide (i = j))) H
  | .non, .non => Q (.bl (neg != true)) H
  | .non, .int _ => Q (.bl neg) H
  | .int _, .non => Q (.bl neg) H
  | .ref p, .ref q => EqR K p q H neg Q
  | _, _ => False
theorem op_cEq (hu : X.A.units + 64 < cLine) : OpR X (compareOp .Eq) (cEqN X.K false) := by
  intro pins s σ H x y v u Q I rx ry h
  cases x <;> cases y <;> first
    | exact (show False from h).elim
    | skip
  case non.non => exact op_eq pins s σ H _ _ v u Q I rx ry ⟨rfl, h⟩
  case non.int j => exact op_eq pins s σ H _ _ v u Q I rx ry ⟨rfl, h⟩
  case int.non j => exact op_eq pins s σ H _ _ v u Q I rx ry ⟨rfl, h⟩
  case bl.bl i j =>
    refine op_eq pins s σ H _ _ v u Q I rx ry ⟨rfl, ?_⟩
    have e : decide (V.bl i = V.bl j) = (false != decide (i = j)) := by by_cases z : i = j <;> simp [z]
    rw [e]; exact h
  case int.int i j =>
    refine op_eq pins s σ H _ _ v u Q I rx ry ⟨rfl, ?_⟩
    have e : decide (V.int i = V.int j) = (false != decide (i = j)) := by by_cases z : i = j <;> simp [z]
    rw [e]; exact h
  case str.str i j =>
    refine op_eq pins s σ H _ _ v u Q I rx ry ⟨rfl, ?_⟩
    have e : decide (V.str i = V.str j) = (false != decide (i = j)) := by by_cases z : i = j <;> simp [z]
    rw [e]; exact h
  case ref.ref p q =>
    obtain ⟨d, e, h1, h2, h3, h4, k⟩ : EqR X.K p q H false Q := h
    refine op_eqD hu pins s σ H _ _ v u Q I rx ry ⟨d, e, h1, h2, h3, h4, ?_⟩
    have z : (false != PyData.eqv d e) = PyData.eqv d e := by cases PyData.eqv d e <;> rfl
    rw [← z]; exact k
theorem op_cNe (hu : X.A.units + 64 < cLine) : OpR X (compareOp .NotEq) (cEqN X.K true) := by
  intro pins s σ H x y v u Q I rx ry h
  cases x <;> cases y <;> first
    | exact (show False from h).elim
    | skip
  case non.non => exact op_ne pins s σ H _ _ v u Q I rx ry ⟨rfl, h⟩
  case non.int j => exact op_ne pins s σ H _ _ v u Q I rx ry ⟨rfl, h⟩
  case int.non j => exact op_ne pins s σ H _ _ v u Q I rx ry ⟨rfl, h⟩
  case bl.bl i j =>
    refine op_ne pins s σ H _ _ v u Q I rx ry ⟨rfl, ?_⟩
    have e : (!decide (V.bl i = V.bl j)) = (true != decide (i = j)) := by by_cases z : i = j <;> simp [z]
    rw [e]; exact h
  case int.int i j =>
    refine op_ne pins s σ H _ _ v u Q I rx ry ⟨rfl, ?_⟩
    have e : (!decide (V.int i = V.int j)) = (true != decide (i = j)) := by by_cases z : i = j <;> simp [z]
    rw [e]; exact h
  case str.str i j =>
    refine op_ne pins s σ H _ _ v u Q I rx ry ⟨rfl, ?_⟩
    have e : (!decide (V.str i = V.str j)) = (true != decide (i = j)) := by by_cases z : i = j <;> simp [z]
    rw [e]; exact h
  case ref.ref p q =>
    obtain ⟨d, e, h1, h2, h3, h4, k⟩ : EqR X.K p q H true Q := h
    refine op_neD hu pins s σ H _ _ v u Q I rx ry ⟨d, e, h1, h2, h3, h4, ?_⟩
    have z : (true != PyData.eqv d e) = !PyData.eqv d e := by cases PyData.eqv d e <;> rfl
    rw [← z]; exact k
/-- in -/
inductive InR (K : PySem.W.Frag) (x : V) (p : Addr) (H : Hp) (neg : Bool) (Q : VK) : Prop where
  | sq (xs : List V) (h : SqL K H p xs ∨ SqT K H p xs) (hx : flatV x = true) (ha : xs.all flatV = true) (k : Q (.bl (neg != inV x xs)) H)
def cIn (K : PySem.W.Frag) (neg : Bool) : R2 := fun x y H Q => match y with
  | .str z => (match x with
    | .str c => Q (.bl (neg != !(Builtin.Str.occurrences z c 0 z.length 1).isEmpty)) H
    | _ => False)
  | .ref p => InR K x p H neg Q
  | _ => False
theorem op_cIn : OpR X (compareOp .In) (cIn X.K false) := by
  intro pins s σ H x y v u Q I rx ry h
  cases y <;> first
    | exact (show False from h).elim
    | skip
  case str z =>
    cases x <;> first
      | exact (show False from h).elim
      | skip
    rename_i c
    refine op_in_str pins s σ H _ _ v u Q I rx ry ⟨_, _, rfl, rfl, ?_⟩
    have e : (false != !(Builtin.Str.occurrences z c 0 z.length 1).isEmpty) = !(Builtin.Str.occurrences z c 0 z.length 1).isEmpty := by cases (Builtin.Str.occurrences z c 0 z.length 1).isEmpty <;> rfl
    rw [← e]; exact h
  case ref p =>
    obtain ⟨xs, h, hx, ha, k⟩ : InR X.K x p H false Q := h
    refine op_in_seq pins s σ H _ _ v u Q I rx ry ⟨p, xs, rfl, h, hx, ha, ?_⟩
    have e : (false != inV x xs) = (if false = true then !inV x xs else inV x xs) := by cases inV x xs <;> rfl
    rw [← e]; exact k
theorem op_cNotIn : OpR X (compareOp .NotIn) (cIn X.K true) := by
  intro pins s σ H x y v u Q I rx ry h
  cases y <;> first
    | exact (show False from h).elim
    | skip
  case str z =>
    cases x <;> first
      | exact (show False from h).elim
      | skip
    rename_i c
    refine op_notIn_str pins s σ H _ _ v u Q I rx ry ⟨_, _, rfl, rfl, ?_⟩
    have e : (true != !(Builtin.Str.occurrences z c 0 z.length 1).isEmpty) = !(!(Builtin.Str.occurrences z c 0 z.length 1).isEmpty) := by cases (Builtin.Str.occurrences z c 0 z.length 1).isEmpty <;> rfl
    rw [← e]; exact h
  case ref p =>
    obtain ⟨xs, h, hx, ha, k⟩ : InR X.K x p H true Q := h
    refine op_notIn_seq pins s σ H _ _ v u Q I rx ry ⟨p, xs, rfl, h, hx, ha, ?_⟩
    have e : (true != inV x xs) = (if true = true then !inV x xs else inV x xs) := by cases inV x xs <;> rfl
    rw [← e]; exact k
/-- is None -/
def isNon : V → Bool
  | .non => true
  | _ => false
theorem isNon_eq (x : V) : decide (x = .non) = isNon x := by cases x <;> simp [isNon]
def cIsN (neg : Bool) : R2 := fun x y H Q => match y with
  | .non => Q (.bl (neg != isNon x)) H
  | _ => False
theorem op_cIs : OpR X (compareOp .Is) (cIsN false) := by
  intro pins s σ H x y v u Q I rx ry h
  cases y <;> first
    | exact (show False from h).elim
    | skip
  refine op_isN pins s σ H _ _ v u Q I rx ry ⟨rfl, ?_⟩
  rw [isNon_eq]
  have e : (false != isNon x) = isNon x := by cases isNon x <;> rfl
  rw [← e]; exact h
theorem op_cIsNot : OpR X (compareOp .IsNot) (cIsN true) := by
  intro pins s σ H x y v u Q I rx ry h
  cases y <;> first
    | exact (show False from h).elim
    | skip
  refine op_notN pins s σ H _ _ v u Q I rx ry ⟨rfl, ?_⟩
  rw [isNon_eq]
  have e : (true != isNon x) = !isNon x := by cases isNon x <;> rfl
  rw [← e]; exact h

def cTest (t : TE) : TT := fun σ H Q => t σ H fun x H' => match x with
  | .bl k => Q k H'
  | _ => False
variable {a b c : Expr} {ta tb tc : TE} {pos : Pos}
theorem ptc {op : CmpOp} {r : R2} (ho : OpR X (compareOp op) r) (ha : PE X a ta) (hb : PE X b tb) (hm : behindInMarks op b = false) : PT X (.Compare a [op] [b] pos) (cTest (tOp r ta tb)) := by
  refine ⟨fun pins s σ H Q I h => ?_⟩
  refine wpAny_isTrue_Compare1 (thn (ha.run pins s σ H _ I h) fun v s1 ⟨x, H1, I1, r1, q1⟩ => thn (hb.run pins s1 σ H1 _ I1 q1) fun u s2 ⟨y, H2, I2, r2, q2⟩ =>
    thn (ho pins s2 σ H2 x y v u _ I2 r1 r2 q2) fun c s3 ⟨z, H3, I3, r3, q3⟩ => ?_) hm
  cases z <;> first
    | exact (show False from q3).elim
    | skip
  cases r3
  exact wpAny_truthy_bool ⟨H3, I3, q3⟩
/-- a op1 b op2 c -/
def cChain (r r' : R2) (ta tb tc : TE) : TE := fun σ H Q => ta σ H fun x H1 => tb σ H1 fun y H2 => r x y H2 fun z H3 => match z with
  | .bl k => if k = true then tc σ H3 fun w' H4 => r' y w' H4 Q else Q (.bl false) H3
  | _ => False
theorem pec {op op' : CmpOp} {r r' : R2} (ho : OpR X (compareOp op) r) (ho' : OpR X (compareOp op') r') (ha : PE X a ta) (hb : PE X b tb) (hc : PE X c tc)
    (hm : lastMarks [op, op'] [b, c] = false := by with_unfolding_all rfl) : PE X (.Compare a [op, op'] [b, c] pos) (cChain r r' ta tb tc) := by
  refine ⟨fun pins s σ H Q I h => ?_⟩
  refine Compare_chain (thn (ha.run pins s σ H _ I h) fun v s1 ⟨x, H1, I1, r1, q1⟩ => chain_link (thn (hb.run pins s1 σ H1 _ I1 q1) fun u s2 ⟨y, H2, I2, r2, q2⟩ =>
    thn (ho pins s2 σ H2 x y v u _ I2 r1 r2 q2) fun d s3 ⟨z, H3, I3, r3, q3⟩ => ?_)) hm
  cases z <;> first
    | exact (show False from q3).elim
    | skip
  rename_i k
  cases r3
  refine wpAny_truthy_bool ?_
  cases k with
  | false => exact ite_ff ⟨.bl false, H3, I3, rfl, q3⟩
  | true => exact ite_tt (chain_last (thn (hc.run pins s3 σ H3 _ I3 q3) fun w' s4 ⟨z', H4, I4, r4, q4⟩ => ho' pins s4 σ H4 y z' u w' Q I4 r2 r4 q4))
theorem ptc2 {op op' : CmpOp} {r r' : R2} (ho : OpR X (compareOp op) r) (ho' : OpR X (compareOp op') r') (ha : PE X a ta) (hb : PE X b tb) (hc : PE X c tc)
    (hm : lastMarks [op, op'] [b, c] = false := by with_unfolding_all rfl) : PT X (.Compare a [op, op'] [b, c] pos) (cTest (cChain r r' ta tb tc)) := by
  refine ⟨fun pins s σ H Q I h => ?_⟩
  refine isTrue_chain (thn (ha.run pins s σ H _ I h) fun v s1 ⟨x, H1, I1, r1, q1⟩ => test_link (thn (hb.run pins s1 σ H1 _ I1 q1) fun u s2 ⟨y, H2, I2, r2, q2⟩ =>
    thn (ho pins s2 σ H2 x y v u _ I2 r1 r2 q2) fun d s3 ⟨z, H3, I3, r3, q3⟩ => ?_)) hm
  cases z <;> first
    | exact (show False from q3).elim
    | skip
  rename_i k
  cases r3
  refine wpAny_truthy_bool ?_
  cases k with
  | false => exact ite_ff ⟨H3, I3, q3⟩
  | true =>
    refine ite_tt (test_last (thn (hc.run pins s3 σ H3 _ I3 q3) fun w' s4 ⟨z', H4, I4, r4, q4⟩ => thn (ho' pins s4 σ H4 y z' u w' _ I4 r2 r4 q4) fun d' s5 ⟨z5, H5, I5, r5, q5⟩ => ?_))
    cases z5 <;> first
      | exact (show False from q5).elim
      | skip
    cases r5
    exact wpAny_truthy_bool ⟨H5, I5, q5⟩
/-- an expression by its truth -/
inductive TruP (K : PySem.W.Frag) (p : Addr) (H : Hp) (Q : Bool → Hp → Prop) : Prop where
  | lst (xs : List V) (h : SqL K H p xs) (k : Q (!xs.isEmpty) H)
  | tup (xs : List V) (h : SqT K H p xs) (k : Q (!xs.isEmpty) H)
  | dic (kvs : List (Key × V)) (h : H p = some (.dK kvs)) (k : Q (!kvs.isEmpty) H)
def cTru (K : PySem.W.Frag) (t : TE) : TT := fun σ H Q => t σ H fun x H' => match x with
  | .bl k => Q k H'
  | .non => Q false H'
  | .int i => Q (i != 0) H'
  | .str y => y.length ≤ sizeLine ∧ Q ((y.length : Int) != 0) H'
  | .ref p => TruP K p H' Q
  | _ => False
theorem ptv {e : Expr} {t : TE} (h : PE X e t) (he : ∀ whole, isTrue e X.env whole = (do let v ← whole; standAt e.pos; holding [v] (truthy v)) := by intro _; rfl) : PT X e (cTru X.K t) := by
  refine ⟨fun pins s σ H Q I hw => ?_⟩
  refine isTrue_plain (thn (h.run pins s σ H _ I hw) fun v s1 ⟨x, H1, I1, r1, q1⟩ => ?_) (he _)
  refine tru_ok pins s1 σ H1 x v Q I1 r1 ?_
  cases x <;> first
    | exact (show False from q1).elim
    | exact ⟨_, rfl, q1⟩
    | exact ⟨_, ⟨q1.1, rfl⟩, q1.2⟩
    | skip
  have q1 : TruP X.K _ H1 Q := q1
  cases q1 with
  | lst xs h k => exact ⟨_, .inl ⟨xs, h, rfl⟩, k⟩
  | tup xs h k => exact ⟨_, .inr (.inl ⟨xs, h, rfl⟩), k⟩
  | dic kvs h k => exact ⟨_, .inr (.inr ⟨kvs, h, rfl⟩), k⟩
variable {rest : List Expr}
def cAndV (ta tb : TE) : TE := fun σ H Q => ta σ H fun x H1 => match x with
  | .bl c => if c = true then tb σ H1 Q else Q (.bl false) H1
  | _ => False
def cOrV (ta tb : TE) : TE := fun σ H Q => ta σ H fun x H1 => match x with
  | .bl c => if c = true then Q (.bl true) H1 else tb σ H1 Q
  | _ => False
def cNotV (ta : TE) : TE := fun σ H Q => ta σ H fun x H1 => match x with
  | .bl c => Q (.bl (!c)) H1
  | _ => False
theorem pe_cAnd (ha : PE X a ta) (hb : PE X (.BoolOp .And (b :: rest) pos) tb) : PE X (.BoolOp .And (a :: b :: rest) pos) (cAndV ta tb) := by
  refine ⟨fun pins s σ H Q I h => ?_⟩
  refine BoolOp_and (thn (ha.run pins s σ H _ I h) fun v s1 ⟨x, H1, I1, r1, q1⟩ => ?_)
  cases x <;> first
    | exact (show False from q1).elim
    | skip
  rename_i c
  cases r1
  refine wpAny_truthy_bool ?_
  cases c with
  | true => exact hb.run pins s1 σ H1 Q I1 q1
  | false => exact ⟨.bl false, H1, I1, rfl, q1⟩
theorem pe_cOr (ha : PE X a ta) (hb : PE X (.BoolOp .Or (b :: rest) pos) tb) : PE X (.BoolOp .Or (a :: b :: rest) pos) (cOrV ta tb) := by
  refine ⟨fun pins s σ H Q I h => ?_⟩
  refine BoolOp_or (thn (ha.run pins s σ H _ I h) fun v s1 ⟨x, H1, I1, r1, q1⟩ => ?_)
  cases x <;> first
    | exact (show False from q1).elim
    | skip
  rename_i c
  cases r1
  refine wpAny_truthy_bool ?_
  cases c with
  | false => exact hb.run pins s1 σ H1 Q I1 q1
  | true => exact ⟨.bl true, H1, I1, rfl, q1⟩
theorem pe_cNot (ha : PE X a ta) : PE X (.UnaryOp .Not a pos) (cNotV ta) := by
  refine ⟨fun pins s σ H Q I h => ?_⟩
  refine UnaryOp_ (thn (ha.run pins s σ H _ I h) fun v s1 ⟨x, H1, I1, r1, q1⟩ => ?_)
  cases x <;> first
    | exact (show False from q1).elim
    | skip
  rename_i c
  cases r1
  exact not_of (wpAny_truthy_bool ⟨.bl (!c), H1, I1, rfl, q1⟩)
def cNeg : V → Hp → VK → Prop := fun x H Q => match x with
  | .int i => Q (.int (-i)) H
  | _ => False
theorem un_cNeg : UnR X (unaryOp .USub) cNeg := by
  intro pins s σ H x v Q I rx h
  cases x <;> first
    | exact (show False from h).elim
    | exact un_neg pins s σ H _ v Q I rx ⟨_, rfl, h⟩
inductive IxR' (K : PySem.W.Frag) (p : Addr) (i : Int) (H : Hp) (Q : VK) : Prop where
  | l {xs : List V} {v : V} (h : SqL K H p xs) (a : atI xs i = some v) (k : Q v H)
  | t {xs : List V} {v : V} (h : SqT K H p xs) (a : atI xs i = some v) (k : Q v H)
def cIx (K : PySem.W.Frag) : R2 := fun x y H Q => match y with
  | .int i => (match x with
    | .str z => z.length ≤ sizeLine ∧ ∃ c, atI z.cps.toList i = some c ∧ Q (.str ⟨#[c]⟩) H
    | .ref p => IxR' K p i H Q
    | _ => False)
  | _ => False
theorem ix_c : IxR X (cIx X.K) := by
  intro value slice pins s σ H x y v u Q I rx ry h hs
  cases y <;> first
    | exact (show False from h).elim
    | skip
  rename_i i
  cases x <;> first
    | exact (show False from h).elim
    | skip
  case str z =>
    obtain ⟨h1, c, h2, h3⟩ : z.length ≤ sizeLine ∧ ∃ c, atI z.cps.toList i = some c ∧ Q (.str ⟨#[c]⟩) H := h
    exact ix_seq value slice pins s σ H _ _ v u Q I rx ry (.inr (.inr ⟨z, i, c, rfl, rfl, h1, h2, h3⟩)) hs
  case ref p =>
    have h : IxR' X.K p i H Q := h
    cases h with
    | l h a k => exact ix_seq value slice pins s σ H _ _ v u Q I rx ry (.inl ⟨p, _, i, _, rfl, rfl, h, a, k⟩) hs
    | t h a k => exact ix_seq value slice pins s σ H _ _ v u Q I rx ry (.inr (.inl ⟨p, _, i, _, rfl, rfl, h, a, k⟩)) hs
def cPart (t : TE) : TO := fun σ H Q => t σ H fun x H1 => match x with
  | .int i => Q (some i) H1
  | _ => False
theorem po_c {te : TE} {e : Expr} (h : PE X e te) : PO X (some e) (cPart te) := by
  refine ⟨fun pins s σ H Q I hw => ?_⟩
  rw [evalPart_some]
  refine thn (h.run pins s σ H _ I hw) fun u s1 ⟨x, H1, I1, r1, q1⟩ => ?_
  cases x <;> first
    | exact (show False from q1).elim
    | skip
  obtain ⟨t, rfl⟩ := r1
  exact ⟨some _, H1, I1, .int _ t, q1⟩
/-- a slice of an object: a new one -/
inductive SlP (K : PySem.W.Frag) (p : Addr) (lo hi : Option Int) (H : Hp) (Q : VK) : Prop where
  | l {xs : List V} (h : SqL K H p xs) (k : ∀ r, H r = none → Q (.ref r) (upd H r (.lst (cutV xs lo hi))))
  | t {xs : List V} (h : SqT K H p xs) (hn : ¬ (HT.sIx xs.length 0 lo = 0 ∧ HT.sIx xs.length xs.length hi = xs.length)) (k : ∀ r, H r = none → Q (.ref r) (upd H r (.tup (cutV xs lo hi))))
def cSl (K : PySem.W.Frag) : V → Option Int → Option Int → Hp → VK → Prop := fun x lo hi H Q => match x with
  | .str z => z.length ≤ sizeLine ∧ Q (.str (cutS z lo hi)) H
  | .ref p => SlP K p lo hi H Q
  | _ => False
theorem sl_c : SlR X (cSl X.K) := by
  intro pins s σ H x v vl vu lo hi sl Q I rx hs pl pu h
  cases x <;> first
    | exact (show False from h).elim
    | skip
  case str z => exact sl_str pins s σ H _ v vl vu lo hi sl Q I rx hs pl pu ⟨z, rfl, h.1, h.2⟩
  case ref p =>
    have h : SlP X.K p lo hi H Q := h
    cases h with
    | l h k => exact sl_list pins s σ H _ v vl vu lo hi sl Q I rx hs pl pu ⟨p, _, rfl, h, k⟩
    | t h hn k => exact sl_tup pins s σ H _ v vl vu lo hi sl Q I rx hs pl pu ⟨p, _, rfl, h, hn, k⟩
end

structure Wd where
  P : Program
  w : World
  K : PySem.W.Frag
  mg : Str → Option Value
  base : Heap
abbrev Wd.of (X : Cx) : Wd := ⟨X.prog, X.w, X.K, X.mg, X.base⟩
/-- the object at f, called with values, keeps the promise -/
abbrev FnG (g : Wd) (k : Nat) (f : Addr) (sp : Sp) : Prop := FnR g.P g.w g.K g.mg g.base (L2.CX g.P g.w) k f sp
/-- the address of what the module's name x holds; of the method m of the class x -/
def gad (K : PySem.W.Frag) (x : Str) : Addr := match PySem.W.nsIn K mainGlobals x with
  | some (some (.ref a)) => a
  | _ => 0
def mad (K : PySem.W.Frag) (C : Addr) (m : Str) : Addr := match PySem.W.findIn K (.ref C) m with
  | some (some (.ref a)) => a
  | _ => 0
/-- the module's name x is the object at its address -/
structure Gf (g : Wd) (x : Str) : Prop where
  mg : g.mg x = some (.ref (gad g.K x))
  kp : PySem.W.keepIn g.K (.ref (gad g.K x)) = true

section
variable {X : Cx} {W : WX} {j : Nat} {x m : Str} {p pos apos : Pos} {e o : Expr} {es : List Expr} {ta : TE} {t : TA}
theorem run_fnR {CX : CXT} {k : Nat} {f : Addr} {sp : Sp} {E : XK} {Q : VK} {us : List Value} {vs : List V} {pins : List (Addr × Obj)} {σ : St} {H : Hp} {s : Shared} (F : FnR X.prog X.w X.K X.mg X.base CX k f sp) (hr : Room k X.A) (hx : PassesAt CX X σ E) (I : Inv X pins σ H s) (r : Vals vs us) (h : sp vs H Q E) :
    wpAny (model X.prog X.w) X.A (call (.ref f) us) (EP X pins σ Q) X.xe s := by
  refine wpAny_call (codeAny_mono (F X.A X.stack s H us vs Q E hr I.env0 r h) fun r s' hq => ?_)
  cases r with
  | error e => exact hx pins H s e s' I hq
  | ok fl =>
    cases fl with
    | ret u => exact I.after hq
    | next => exact False.elim hq
    | brk => exact False.elim hq
    | cont => exact False.elim hq
/-- a call of the object at f, by the promise that the reader brings -/
inductive CallP (g : Wd) (j : Nat) (f : Addr) (vs : List V) (H : Hp) (Q : VK) (E : XK) : Prop where
  | by {k : Nat} {sp : Sp} (c : FnG g k f sp) (hk : k ≤ j) (h : sp vs H Q E)
def cCall (g : Wd) (j : Nat) (W : WX) (f : Addr) (t : TA) : TE := fun σ H Q => t σ H fun vs H1 => CallP g j f vs H1 Q (fun cls d H' => W cls d σ H')
theorem run_callP {f : Addr} {E : XK} {Q : VK} {us : List Value} {vs : List V} {pins : List (Addr × Obj)} {σ : St} {H : Hp} {s : Shared} (hr : Room j X.A) (hx : PassesAt (L2.CX X.prog X.w) X σ E) (I : Inv X pins σ H s) (r : Vals vs us) (h : CallP (.of X) j f vs H Q E) :
    wpAny (model X.prog X.w) X.A (call (.ref f) us) (EP X pins σ Q) X.xe s := by
  obtain ⟨c, hk, h⟩ := h
  exact run_fnR c (hr.mono hk) hx I r h
theorem pe_cCall (tk : Takes X W) (hr : Room j X.A) (hf : Gf (.of X) x) (hg : Gl X x) (ha : PA X (e :: es) t) (hdb : (x == ("__debug__" : Str)) = false := by decide) (he : starEach (e :: es) X.env = (false, eval e X.env) :: starEach es X.env := by rfl)
    (hpl : (backTo pos (starEach es X.env)).any (·.1) = false := by rfl) : PE X (.Call (.Name x p) (e :: es) [] pos) (cCall (.of X) j W (gad X.K x) t) := by
  refine ⟨fun pins s σ H Q I h => ?_⟩
  refine wpAny_Call_Name_kw (ld_glob I hg hf.mg ?_ hdb)
  refine PySem.W.callWith_K (h₀ := X.base) I.ok.mod.kin hf.kp (thn (ha.run pos pins s σ H _ I h) fun us s1 ⟨vs, H1, I1, r, q⟩ => ⟨I1.kIn, ?_⟩) he hpl
  exact run_callP hr (passAt tk σ) I1 r q
theorem pe_cCall0 (tk : Takes X W) (hr : Room j X.A) (hf : Gf (.of X) x) (hg : Gl X x) (hdb : (x == ("__debug__" : Str)) = false := by decide) : PE X (.Call (.Name x p) [] [] pos) (cCall (.of X) j W (gad X.K x) tNil) := by
  refine ⟨fun pins s σ H Q I h => ?_⟩
  refine wpAny_Call_Name_kw (ld_glob I hg hf.mg ?_ hdb)
  exact PySem.W.callWith_K0 I.kIn hf.kp (run_callP (us := []) hr (passAt tk σ) I .nil h)
/-- o.m(..): the receiver -/
inductive MethP (g : Wd) (m : Str) (x : V) (H : Hp) (R : Addr → Addr → Prop) : Prop where
  | own {a C dx f : Addr} {fs : List (Str × V)} (e : x = .ref a) (h : H a = some (.ins C dx fs)) (c : Cls g.K C) (hm : Meth g.K C m f) (l : fs.lookup m = none) (k : R a f)
def cMeth (g : Wd) (j : Nat) (W : WX) (m : Str) (ta : TE) (t : TA) : TE := fun σ H Q => ta σ H fun x H1 => MethP g m x H1 fun a f => t σ H1 fun vs H2 => CallP g j f (.ref a :: vs) H2 Q (fun cls d H' => W cls d σ H')
theorem pe_cMeth {pl : Sem Bool} (tk : Takes X W) (hr : Room j X.A) (he : PE X o ta) (ha : PA X (e :: es) t)
    (hst : starEach (e :: es) X.env = (false, eval e X.env) :: starEach es X.env := by rfl) (hpl : (backTo pos (starEach es X.env)).any (·.1) = false := by rfl)
    (ht : eval (.Call (.Attribute o m apos) (e :: es) [] pos) X.env = (do
      let ov ← eval o X.env
      standAt apos.atName
      let (f, first) ← holding [ov] (getMethod ov m pl)
      callWith pos f first (backTo pos (starEach (e :: es) X.env)) (backToKw pos (keywordEach [] X.env))) := by rfl) :
    PE X (.Call (.Attribute o m apos) (e :: es) [] pos) (cMeth (.of X) j W m ta t) := by
  refine ⟨fun pins s σ H Q I h => ?_⟩
  refine PySem.W.methodCall_KW (pl := pl) (thn (he.run pins s σ H _ I h) fun u s1 ⟨x, H1, I1, rx, q⟩ => ?_) ht
  obtain ⟨ex, ea, c, hm, l, q⟩ := q
  rename_i a C dx f fs
  subst ex
  obtain rfl : u = Value.ref a := rx
  refine getmeth_ok I1 ea c hm l ?_
  refine PySem.W.callWith_K (first := [.ref a]) (h₀ := X.base) I.ok.mod.kin hm.kp (thn (ha.run pos pins s1 σ H1 _ I1 q) fun us s2 ⟨vs, H2, I2, r, q2⟩ => ⟨I2.kIn, ?_⟩) hst hpl
  exact run_callP (us := .ref a :: us) (vs := .ref a :: vs) hr (passAt tk σ) I2 (.cons rfl r) q2
theorem pe_cMeth0 {pl : Sem Bool} (tk : Takes X W) (hr : Room j X.A) (he : PE X o ta)
    (ht : eval (.Call (.Attribute o m apos) [] [] pos) X.env = (do
      let ov ← eval o X.env
      standAt apos.atName
      let (f, first) ← holding [ov] (getMethod ov m pl)
      callWith pos f first (backTo pos (starEach [] X.env)) (backToKw pos (keywordEach [] X.env))) := by rfl) :
    PE X (.Call (.Attribute o m apos) [] [] pos) (cMeth (.of X) j W m ta tNil) := by
  refine ⟨fun pins s σ H Q I h => ?_⟩
  refine PySem.W.methodCall_KW (pl := pl) (thn (he.run pins s σ H _ I h) fun u s1 ⟨x, H1, I1, rx, q⟩ => ?_) ht
  obtain ⟨ex, ea, c, hm, l, q⟩ := q
  rename_i a C dx f fs
  subst ex
  obtain rfl : u = Value.ref a := rx
  refine getmeth_ok I1 ea c hm l ?_
  exact PySem.W.callWith_K0 (first := [.ref a]) I1.kIn hm.kp (run_callP (us := [.ref a]) (vs := [.ref a]) hr (passAt tk σ) I1 (.cons rfl .nil) q)
/-- o.f: a field -/
inductive FldP (K : PySem.W.Frag) (f : Str) (x : V) (H : Hp) (Q : VK) : Prop where
  | by {a C dx : Addr} {fs : List (Str × V)} {v : V} (e : x = .ref a) (h : H a = some (.ins C dx fs)) (c : Cls K C) (n : NoAttr K C f) (l : fs.lookup f = some v) (k : Q v H)
def cFld (K : PySem.W.Frag) (ta : TE) (f : Str) : TE := fun σ H Q => ta σ H fun x H1 => FldP K f x H1 Q
theorem pe_cFld {f : Str} (he : PE X e ta) (hb : attributeBase e f X.env (eval e X.env) = eval e X.env := by rfl) : PE X (.Attribute e f pos) (cFld X.K ta f) := by
  refine ⟨fun pins s σ H Q I h => ?_⟩
  refine attr_of hb (thn (he.run pins s σ H _ I h) fun u s1 ⟨x, H1, I1, rx, q⟩ => ?_)
  obtain ⟨ex, ea, c, n, l, q⟩ := q
  rename_i a C dx fs v
  subst ex
  obtain rfl : u = Value.ref a := rx
  exact getattr_ok I1 ea c n l fun u' s2 I2 ru => ⟨v, H1, I2, ru, q⟩
/-- o.f = v -/
inductive SetP (K : PySem.W.Frag) (f : Str) (x y : V) (H : Hp) (Q : Hp → Prop) : Prop where
  | by {a C dx : Addr} {fs : List (Str × V)} (e : x = .ref a) (h : H a = some (.ins C dx fs)) (c : Cls K C) (n : NoAttr K C f) (l : fs.length < 1000) (k : Q (upd H a (.ins C dx (putF f y fs))))
def cSetF (K : PySem.W.Frag) (ta tv : TE) (f : Str) : TS := fun D σ H => tv σ H fun y H1 => ta σ H1 fun x H2 => SetP K f x y H2 fun H3 => D.nx σ H3
theorem ps_cSetF {f : Str} {value : Expr} {tv : TE} {pos' : Pos} (ha : PE X o ta) (hv : PE X value tv) (hs : swapsWith value (some (.Attribute o f pos')) pos.line X.env = pure false := by rfl) : PS X (.Assign [.Attribute o f pos'] value pos) (cSetF X.K ta tv f) := by
  refine ⟨fun pins s σ H D I h => ?_⟩
  refine plainObj_wpAny_Assign_Attribute (thn (hv.run pins s σ H _ I h) fun u s1 ⟨y, H1, I1, ry, q⟩ => thn (ha.run pins s1 σ H1 _ I1 q) fun ov s2 ⟨x, H2, I2, rx, q2⟩ => ?_) hs
  obtain ⟨ex, ea, c, n, l, q2⟩ := q2
  rename_i a C dx fs
  subst ex
  obtain rfl : ov = Value.ref a := rx
  exact setattr_ok I2 ea c n l ry fun s3 I3 => ⟨σ, _, I3, q2⟩
/-- o.f, a property: its getter lets nothing out -/
inductive PropP (g : Wd) (j : Nat) (f : Str) (x : V) (H : Hp) (Q : VK) : Prop where
  | by {a C dx p gt : Addr} {fs : List (Str × V)} {k : Nat} {sp : Sp} (e : x = .ref a) (h : H a = some (.ins C dx fs)) (c : Cls g.K C) (hp : PropOf g.K C f p gt) (F : FnG g k gt sp) (hk : k ≤ j) (q : sp [.ref a] H Q E0)
def cProp (g : Wd) (j : Nat) (ta : TE) (f : Str) : TE := fun σ H Q => ta σ H fun x H1 => PropP g j f x H1 Q
theorem pe_cProp {f : Str} (hr : Room (j + 1) X.A) (he : PE X e ta) (hb : attributeBase e f X.env (eval e X.env) = eval e X.env := by rfl) : PE X (.Attribute e f pos) (cProp (.of X) j ta f) := by
  refine ⟨fun pins s σ H Q I h => ?_⟩
  refine attr_of hb (thn (he.run pins s σ H _ I h) fun u s1 ⟨x, H1, I1, rx, q⟩ => ?_)
  obtain ⟨ex, ea, c, hp, F, hk, q⟩ := q
  rename_i a C dx p gt fs k sp
  subst ex
  obtain rfl : u = Value.ref a := rx
  obtain ⟨mA, O, _, _, _, _⟩ := ins_get I1.hok ea
  obtain ⟨od, J, _⟩ := O.look
  obtain ⟨rest, hrec⟩ := hp.rec_
  have I2 := I1.tok (s1.toks + 1)
  have hc : (PySem.W.clsIn X.K C).isSome = true := by
    obtain ⟨cd, hc, _⟩ := PySem.W.any_some c.hd
    rw [hc]
    rfl
  refine PySem.W.get_bind I1.kIn J (PySem.W.plainGet_of (c.get f)).1 (PySem.W.findObj_data hc hp.at_ hp.get hp.tak) (PySem.W.plainGet_of (c.get f)).2 (wpAny_call (PySem.W.prop_get (s := { s1 with toks := s1.toks + 1 }) I1.kIn hrec ?_))
  refine codeAny_mono (F X.A.in1 X.stack { s1 with toks := s1.toks + 1 } H1 [.ref a] [.ref a] Q E0 (hr.mono (Nat.succ_le_succ hk)).in1 I2.env0.in1 (.cons rfl .nil) q) fun r s' hq => ?_
  cases r with
  | error er => exact False.elim (passL (X := X) pins σ H1 { s1 with toks := s1.toks + 1 } er s' I2 hq |> fun z => by
      obtain ⟨_, _, _, _, _, _, _, _, _, _, _, _, z⟩ := hq
      exact z)
  | ok fl =>
    cases fl with
    | ret u =>
      obtain ⟨v, H', I3, rv, q3⟩ := I2.after hq
      show wpAny _ _ (handedOut u) _ _ _
      rw [PySem.W.handedOut_of (handed_of rv)]
      exact wpAny_pure ⟨v, H', I3, rv, q3⟩
    | next => exact False.elim hq
    | brk => exact False.elim hq
    | cont => exact False.elim hq
end
end Cy
namespace Cy
open PySem PySem.Spec PyProof.Rows L2
section
variable {prog : Program} {w : World} {A : Around} {E : Value → Shared → Prop} {s : Shared} {l : Addr} {its : List Value} {ns : List Int} {Q : Value → Shared → Prop}
theorem ltS {a b : Nat} (h : b = a ∨ b < a) : b < a + 1 := by omega
theorem sum_tup (hh : A.handled = none) (hl : s.heap.IsTuple l its.toArray) (hi : IntsAre its ns)
    (h : ∀ h' tk t', (∀ b o, s.heap.get? b = some o → h'.get? b = some o) → Q (.int ns.sum t') { s with heap := h', toks := tk }) : wpAny (model prog w) A (call (.builtin "sum") [.ref l]) Q E s := by
  obtain ⟨xs, e⟩ := hi.allInts.items
  have hn : numsOf (intItems xs).toList = ns := by rw [← e]; exact hi.numsOf
  rw [nums_intItems] at hn
  rw [e] at hl
  have hlt : l < s.heap.objs.size := by obtain ⟨_, e, _⟩ := hl; exact Heap.lt_size e
  refine call_sum_walkG (wpAny_pyIter_tuple hl ?_)
  refine ⟨_, _, _, _, _, _, numAt xs, rfl, Walks.tuple (A := A.in1) hh _ l (Nat.ne_of_lt hlt) (intItems xs), ⟨⟨_, Heap.get?_push_size _ rfl, rfl, rfl⟩, hl.push _⟩, ?_, (fun _ _ => intItems_at), fun h' tk t' hk => ?_⟩
  · intro b hb
    show b < (s.heap.push _).objs.size
    rw [Heap.size_push]
    rcases List.mem_cons.mp hb with rfl | hb
    · exact ltS (.inl rfl)
    · rcases List.mem_cons.mp hb with rfl | hb
      · exact ltS (.inr hlt)
      · cases hb
  · have q := h h' tk t' (fun b o e => by
      refine hk b o (fun hm => ?_) (Heap.get?_push_of_some _ e)
      rcases List.mem_cons.mp hm with e1 | hm
      · exact absurd (e1 ▸ Heap.lt_size e) (Nat.lt_irrefl _)
      · cases hm)
    rw [preSum_eq, List.take_of_length_le (by simp [intItems]), hn]
    exact q
end
section
variable {X : Cx} {j : Nat}
/-- sum of ints -/
inductive SumP (K : PySem.W.Frag) (p : Addr) (H : Hp) (Q : VK) : Prop where
  | l {ns : List Int} (h : SqL K H p (ns.map V.int)) (k : Q (.int ns.sum) H)
  | t {ns : List Int} (h : SqT K H p (ns.map V.int)) (k : Q (.int ns.sum) H)
def cSum (K : PySem.W.Frag) : List V → Hp → VK → Prop := fun xs H Q => match xs with
  | [.ref p] => SumP K p H Q
  | _ => False
theorem call_cSum (hc : X.calm = true) : CallR X (.builtin "sum") (cSum X.K) := by
  intro pins s σ H xs us Q I r h
  match xs, r, h with
  | [.ref p], r, h =>
    have h : SumP X.K p H Q := h
    cases h with
    | l h k => exact cr_sum hc pins s σ H _ us Q I r ⟨p, _, rfl, h, k⟩
    | t h k =>
      obtain ⟨its, rv, hl, _⟩ := I.tuple h
      rw [Vals.ref1 r]
      refine sum_tup (I.ok.hd hc) (show s.heap.IsTuple p its.toArray from hl) rv.ints fun h' tk t' hk => ⟨.int _, H, I.kept hk, ⟨_, rfl⟩, k⟩

theorem cr1 {f : Value} {r : List V → Hp → VK → Prop} (h : CallR X f r) : CallR X f r := h
/-- len -/
inductive LenP (g : Wd) (j : Nat) (p : Addr) (H : Hp) (Q : VK) : Prop where
  | l {xs : List V} (h : SqL g.K H p xs) (k : Q (.int xs.length) H)
  | t {xs : List V} (h : SqT g.K H p xs) (k : Q (.int xs.length) H)
  | own {C dx f : Addr} {fs : List (Str × V)} {k : Nat} {sp : Sp} (h : H p = some (.ins C dx fs)) (hs : PySem.W.findIn g.K (.ref C) "__len__" = some (some (.ref f))) (hf : PySem.W.isFn g.K (.ref f) = true) (F : FnG g k f sp) (hk : k ≤ j)
      (q : sp [.ref p] H (fun v H' => ∃ n : Int, v = .int n ∧ 0 ≤ n ∧ n < 2 ^ 63 ∧ Q (.int n) H') E0)
def cLen (g : Wd) (j : Nat) : List V → Hp → VK → Prop := fun xs H Q => match xs with
  | [.str y] => y.length ≤ sizeLine ∧ Q (.int y.length) H
  | [.ref p] => LenP g j p H Q
  | _ => False
theorem call_cLen (hr : Room (j + 1) X.A) : CallR X (.builtin "len") (cLen (.of X) j) := by
  intro pins s σ H xs us Q I r h
  match xs, r, h with
  | [.str y], r, h => exact call_len pins s σ H _ us Q I r ⟨_, _, rfl, ⟨h.1, rfl⟩, h.2⟩
  | [.ref p], r, h =>
    have h : LenP (.of X) j p H Q := h
    cases h with
    | l h k => exact call_len pins s σ H _ us Q I r ⟨_, _, rfl, .inl ⟨_, h, rfl⟩, k⟩
    | t h k => exact call_len pins s σ H _ us Q I r ⟨_, _, rfl, .inr ⟨_, h, rfl⟩, k⟩
    | @own C dx f fs k sp h hs hf F hk q =>
      rw [Vals.ref1 r]
      obtain ⟨mA, O, _, _, _, _⟩ := ins_get I.hok h
      obtain ⟨od, J, _⟩ := O.look
      obtain ⟨m, Fm⟩ := I.fr
      refine PySem.W.len_K Fm I.ok.mod.kin J hs hf (wpAny_call (codeAny_mono (F X.A.in1 X.stack s H [.ref p] [.ref p] _ E0 (hr.mono (Nat.succ_le_succ hk)).in1 I.env0.in1 (.cons rfl .nil) q) fun r s' hq => ?_))
      cases r with
      | error er =>
        obtain ⟨_, _, _, _, _, _, _, _, _, _, _, _, z⟩ := hq
        exact z.elim
      | ok fl =>
        cases fl with
        | ret u =>
          obtain ⟨v, H', I3, rv, n, ev, n1, n2, q3⟩ := I.after hq
          subst ev
          obtain ⟨t, rfl⟩ := rv
          exact ⟨⟨n1, n2⟩, ⟨.int n, H', I3.tok _, ⟨_, rfl⟩, q3⟩⟩
        | next => exact False.elim hq
        | brk => exact False.elim hq
        | cont => exact False.elim hq
/-- int -/
def cInt : List V → Hp → VK → Prop := fun xs H Q => match xs with
  | [.int i] => Q (.int i) H
  | [.bl k] => Q (.int (if k then 1 else 0)) H
  | [.str a] => ∃ n, PySem.intText? a = some n ∧ a.length ≤ 640 ∧ Q (.int n) H
  | _ => False
theorem call_cInt : CallR X (.type "int") cInt := by
  intro pins s σ H xs us Q I r h
  match xs, r, h with
  | [.int i], r, h => exact call_int1 pins s σ H _ us Q I r (.inl ⟨_, rfl, h⟩)
  | [.bl i], r, h => exact call_int1 pins s σ H _ us Q I r (.inr ⟨_, rfl, h⟩)
  | [.str a], r, h =>
    obtain ⟨n, h1, h2, h3⟩ : ∃ n, PySem.intText? a = some n ∧ a.length ≤ 640 ∧ Q (.int n) H := h
    exact call_int_str pins s σ H _ us Q I r ⟨a, n, rfl, h1, h2, h3⟩
/-- str -/
def cStr : List V → Hp → VK → Prop := fun xs H Q => match xs with
  | [.int i] => i.natAbs.log2 < 1920 ∧ Q (.str (toString i)) H
  | _ => False
theorem call_cStr : CallR X (.type "str") cStr := by
  intro pins s σ H xs us Q I r h
  match xs, r, h with
  | [.int i], r, h => exact call_str_int pins s σ H _ us Q I r ⟨_, rfl, h.1, h.2⟩
def cAbs : List V → Hp → VK → Prop := fun xs H Q => match xs with
  | [.int i] => Q (.int (if i < 0 then -i else i)) H
  | _ => False
theorem call_cAbs : CallR X (.builtin "abs") cAbs := by
  intro pins s σ H xs us Q I r h
  match xs, r, h with
  | [.int i], r, h => exact call_abs pins s σ H _ us Q I r ⟨_, rfl, h⟩
/-- the least, the greatest of a list -/
inductive MnP (K : PySem.W.Frag) (p : Addr) (H : Hp) (Q : VK) : Prop where
  | l {ns : List Int} (h : SqL K H p (ns.map V.int)) (hn : 0 < ns.length) (k : ∀ m, m ∈ ns → (∀ y, y ∈ ns → m ≤ y) → Q (.int m) H)
inductive MxP (K : PySem.W.Frag) (p : Addr) (H : Hp) (Q : VK) : Prop where
  | l {ns : List Int} (h : SqL K H p (ns.map V.int)) (hn : 0 < ns.length) (k : ∀ m, m ∈ ns → (∀ y, y ∈ ns → y ≤ m) → Q (.int m) H)
def cMin (K : PySem.W.Frag) : List V → Hp → VK → Prop := fun xs H Q => match xs with
  | [.int i, .int j] => Q (.int (min i j)) H
  | [.int i, .int j, .int k] => Q (.int (min (min i j) k)) H
  | [.ref p] => MnP K p H Q
  | _ => False
def cMax (K : PySem.W.Frag) : List V → Hp → VK → Prop := fun xs H Q => match xs with
  | [.int i, .int j] => Q (.int (max i j)) H
  | [.int i, .int j, .int k] => Q (.int (max (max i j) k)) H
  | [.ref p] => MxP K p H Q
  | _ => False
theorem min2i (i k : Int) : nuMin2 (.int i) (.int k) = some (.int (min i k)) := by
  have e : nuMin2 (.int i) (.int k) = some (if decide (k < i) = true then .int k else .int i) := rfl
  rw [e]
  by_cases h : k < i
  · rw [if_pos (decide_eq_true h), show min i k = k by omega]
  · rw [if_neg (by simpa using h), show min i k = i by omega]
theorem max2i (i k : Int) : nuMax2 (.int i) (.int k) = some (.int (max i k)) := by
  have e : nuMax2 (.int i) (.int k) = some (if decide (i < k) = true then .int k else .int i) := rfl
  rw [e]
  by_cases h : i < k
  · rw [if_pos (decide_eq_true h), show max i k = k by omega]
  · rw [if_neg (by simpa using h), show max i k = i by omega]
theorem call_cMin (hc : X.calm = true) : CallR X (.builtin "min") (cMin X.K) := by
  intro pins s σ H xs us Q I r h
  match xs, r, h with
  | [.int i, .int k], r, h =>
    refine call_min2 hc pins s σ H _ us Q I r ⟨_, _, rfl, ?_⟩
    have e : (if k < i then k else i) = min i k := by split <;> omega
    rw [e]; exact h
  | [.int i, .int k, .int l], r, h =>
    exact call_min3Nu hc pins s σ H _ us Q I r ⟨_, _, _, .int (min (min i k) l), rfl, by unfold nuMin3; rw [min2i, Option.bind_some, min2i], h⟩
  | [.ref p], r, h =>
    obtain ⟨h, hn, k⟩ : MnP X.K p H Q := h
    exact cr_min hc pins s σ H _ us Q I r ⟨p, _, rfl, h, hn, k⟩
theorem call_cMax (hc : X.calm = true) : CallR X (.builtin "max") (cMax X.K) := by
  intro pins s σ H xs us Q I r h
  match xs, r, h with
  | [.int i, .int k], r, h =>
    refine call_max2 hc pins s σ H _ us Q I r ⟨_, _, rfl, ?_⟩
    have e : (if k > i then k else i) = max i k := by split <;> omega
    rw [e]; exact h
  | [.int i, .int k, .int l], r, h =>
    exact call_max3Nu hc pins s σ H _ us Q I r ⟨_, _, _, .int (max (max i k) l), rfl, by unfold nuMax3; rw [max2i, Option.bind_some, max2i], h⟩
  | [.ref p], r, h =>
    obtain ⟨h, hn, k⟩ : MxP X.K p H Q := h
    exact cr_max hc pins s σ H _ us Q I r ⟨p, _, rfl, h, hn, k⟩
/-- list(..), tuple(..) -/
inductive LstP (K : PySem.W.Frag) (p : Addr) (H : Hp) (Q : VK) : Prop where
  | l {xs : List V} (h : SqL K H p xs) (k : ∀ r, H r = none → Q (.ref r) (upd H r (.lst xs)))
  | t {xs : List V} (h : SqT K H p xs) (k : ∀ r, H r = none → Q (.ref r) (upd H r (.lst xs)))
inductive TupP (K : PySem.W.Frag) (p : Addr) (H : Hp) (Q : VK) : Prop where
  | l {xs : List V} (h : SqL K H p xs) (k : ∀ r, H r = none → Q (.ref r) (upd H r (.tup xs)))
  | t {xs : List V} (h : SqT K H p xs) (k : Q (.ref p) H)
def cList (K : PySem.W.Frag) : List V → Hp → VK → Prop := fun xs H Q => match xs with
  | [.ref p] => LstP K p H Q
  | _ => False
def cTuple (K : PySem.W.Frag) : List V → Hp → VK → Prop := fun xs H Q => match xs with
  | [.ref p] => TupP K p H Q
  | _ => False
theorem call_cList : CallR X (.type "list") (cList X.K) := by
  intro pins s σ H xs us Q I r h
  match xs, r, h with
  | [.ref p], r, h =>
    have h : LstP X.K p H Q := h
    cases h with
    | l h k => exact call_list_of pins s σ H _ us Q I r ⟨p, _, rfl, .inl h, k⟩
    | t h k => exact call_list_of pins s σ H _ us Q I r ⟨p, _, rfl, .inr h, k⟩
theorem call_cTuple : CallR X (.type "tuple") (cTuple X.K) := by
  intro pins s σ H xs us Q I r h
  match xs, r, h with
  | [.ref p], r, h =>
    have h : TupP X.K p H Q := h
    cases h with
    | l h k => exact call_tuple_of pins s σ H _ us Q I r ⟨p, _, rfl, .inl ⟨h, k⟩⟩
    | t h k => exact call_tuple_of pins s σ H _ us Q I r ⟨p, _, rfl, .inr ⟨h, k⟩⟩
/-- all(list of bools) -/
inductive AllP (K : PySem.W.Frag) (p : Addr) (H : Hp) (Q : VK) : Prop where
  | l {bs : List Bool} (h : SqL K H p (bs.map V.bl)) (k : Q (.bl (bs.all id)) H)
def cAll (K : PySem.W.Frag) : List V → Hp → VK → Prop := fun xs H Q => match xs with
  | [.ref p] => AllP K p H Q
  | _ => False
theorem call_cAll (hc : X.calm = true) : CallR X (.builtin "all") (cAll X.K) := by
  intro pins s σ H xs us Q I r h
  match xs, r, h with
  | [.ref p], r, h =>
    obtain ⟨h, k⟩ : AllP X.K p H Q := h
    exact cr_all hc pins s σ H _ us Q I r ⟨p, _, rfl, h, k⟩
def cDivmod : List V → Hp → VK → Prop := fun xs H Q => match xs with
  | [.int i, .int j] => CDiv i j ∧ ∀ p, H p = none → Q (.ref p) (upd H p (.tup [.int (i / j), .int (i % j)]))
  | _ => False
theorem call_cDivmod : CallR X (.builtin "divmod") cDivmod := by
  intro pins s σ H xs us Q I r h
  match xs, r, h with
  | [.int i, .int j], r, h => exact call_divmod pins s σ H _ us Q I r ⟨_, _, rfl, h.1, h.2⟩
/-- isinstance: scalars by their types, objects as told -/
def scTy : V → Option String
  | .int _ => some "int"
  | .bl _ => some "bool"
  | .str _ => some "str"
  | .non => some "NoneType"
  | _ => none
theorem scTy_of {K : PySem.W.Frag} {H : Hp} {x : V} {n : String} (h : scTy x = some n) : TyOf K H x (.type n) := by
  cases x <;> first
    | (cases h; first | exact .int _ | exact .bl _ | exact .str _ | exact .non)
    | cases h
inductive IsiP (K : PySem.W.Frag) (x c : V) (H : Hp) (Q : VK) : Prop where
  | sc {n m : String} {b : Bool} (hx : scTy x = some n) (hc : c = .ty m) (hb : kitB n m = some b) (k : Q (.bl b) H)
  | own {C D : Addr} {b : Bool} (ty : TyX K H x (.ref D)) (hc : c = .ref C) (hb : PySem.W.kitOne K (.ref D) (.ref C) = some b) (k : Q (.bl b) H)
  | lst {p : Addr} {xs : List V} {m : String} {b : Bool} (ex : x = .ref p) (h : H p = some (.lst xs)) (hc : c = .ty m) (hb : kitB "list" m = some b) (k : Q (.bl b) H)
  | scOwn {n : String} {C : Addr} {b : Bool} (hx : scTy x = some n) (hc : c = .ref C) (hb : PySem.W.kitOne K (.type n) (.ref C) = some b) (k : Q (.bl b) H)
def cIsi (K : PySem.W.Frag) : List V → Hp → VK → Prop := fun xs H Q => match xs with
  | [x, c] => IsiP K x c H Q
  | _ => False
theorem call_cIsi : CallR X (.builtin "isinstance") (cIsi X.K) := by
  intro pins s σ H xs us Q I r h
  match xs, r, h with
  | [x, c], r, h =>
    have h : IsiP X.K x c H Q := h
    cases h with
    | sc hx hc hb k =>
      subst hc
      exact call_isi pins s σ H _ us Q I r ⟨_, _, _, _, _, rfl, .ty _, .base (scTy_of hx), kit_ty hb, k⟩
    | own ty hc hb k =>
      subst hc
      exact call_isi pins s σ H _ us Q I r ⟨_, _, _, _, _, rfl, .own _, ty, hb, k⟩
    | lst ex hl hc hb k =>
      subst hc ex
      exact call_isi pins s σ H _ us Q I r ⟨_, _, _, _, _, rfl, .ty _, .base (.lst hl), kit_ty hb, k⟩
    | scOwn hx hc hb k =>
      subst hc
      exact call_isi pins s σ H _ us Q I r ⟨_, _, _, _, _, rfl, .own _, .base (scTy_of hx), hb, k⟩
end
end Cy
namespace Cy
open PySem PySem.Spec PyProof.Rows L2
section
variable {X : Cx} {o e : Expr} {es : List Expr} {to : TE} {t : TA} {name : Str} {apos cpos : Pos} {id : String} {r : Str → List V → Hp → VK → Prop}
def cStrM0 (r : Str → List V → Hp → VK → Prop) (to : TE) : TE := fun σ H Q => to σ H fun x H1 => match x with
  | .str a => r a [] H1 Q
  | _ => False
def cStrM (r : Str → List V → Hp → VK → Prop) (to : TE) (t : TA) : TE := fun σ H Q => to σ H fun x H1 => match x with
  | .str a => t σ H1 fun xs H2 => r a xs H2 Q
  | _ => False
/-- a method of texts by values -/
def MtS' (X : Cx) (id : String) (r : Str → List V → Hp → VK → Prop) : Prop :=
  ∀ (pins : List (Addr × Obj)) (s : Shared) (σ : St) (H : Hp) (a : Str) (xs : List V) (tk : Tok) (us : List Value) (Q : VK), Inv X pins σ H s → Vals xs us → r a xs H Q →
    wpAny (model X.prog X.w) X.A (call (.builtin id) (.str a tk :: us)) (EP X pins σ Q) X.xe s
theorem MtS'.of {r' : V → List V → Hp → VK → Prop} (h : MtR X id r') (hh : ∀ a xs H Q, r a xs H Q → r' (.str a) xs H Q) : MtS' X id r := fun pins s σ H a xs tk us Q I rx q => h pins s σ H (.str a) xs (.str a tk) us Q I (show RelV (.str a) (.str a tk) from ⟨tk, rfl⟩) rx (hh _ _ _ _ q)
theorem pe_sm0 (slot : Slot "str" name id) (hty : typeOf (.builtin id) = pure (.type "method_descriptor")) (hm : MtS' X id r) (ho : PE X o to)
    (hbase : attributeBase o name X.env (eval o X.env) = eval o X.env := by rfl) (hline : (apos.endLine == cpos.line) = true := by rfl) : PE X (.Call (.Attribute o name apos) [] [] cpos) (cStrM0 r to) := by
  refine ⟨fun pins s σ H Q I h => ?_⟩
  refine wpAny_Call_method0_late hbase hline (thn (ho.run pins s σ H _ I h) fun v s1 ⟨x, H1, I1, r1, q1⟩ => ?_)
  cases x <;> first
    | exact (show False from q1).elim
    | skip
  rename_i a
  obtain ⟨h1, h2⟩ := tyV_is (T := "str") I1 r1 rfl
  obtain ⟨tk, rfl⟩ := r1
  exact ⟨"str", id, PySem.F.plainAttrs_str, slot, hty, h1, h2, Calls.callWith_builtin rfl (PySem.evalArgs_none (hm pins s1 σ H1 a [] tk [] Q I1 .nil q1))⟩
theorem pe_sm (slot : Slot "str" name id) (hty : typeOf (.builtin id) = pure (.type "method_descriptor")) (hm : MtS' X id r) (ho : PE X o to) (ha : PA X (e :: es) t)
    (hbase : attributeBase o name X.env (eval o X.env) = eval o X.env := by rfl)
    (hfew : ((backTo cpos (starEach (e :: es) X.env)).all (fun x => !x.1) && (backToKw cpos (keywordEach [] X.env)).all (fun x => x.1.isSome)
      && decide ((e :: es).length + ([] : List Keyword).length + (if ([] : List Keyword).isEmpty then 0 else 1) < 30)) = true := by rfl)
    (hline : (apos.endLine == cpos.line) = true := by rfl) (hs : starEach (e :: es) X.env = (false, eval e X.env) :: starEach es X.env := by rfl) (hplain : (backTo cpos (starEach es X.env)).any (·.1) = false := by rfl) :
    PE X (.Call (.Attribute o name apos) (e :: es) [] cpos) (cStrM r to t) := by
  refine ⟨fun pins s σ H Q I h => ?_⟩
  refine wpAny_Call_method_late hbase hfew hline rfl (thn (ho.run pins s σ H _ I h) fun v s1 ⟨x, H1, I1, r1, q1⟩ => ?_)
  cases x <;> first
    | exact (show False from q1).elim
    | skip
  rename_i a
  obtain ⟨h1, h2⟩ := tyV_is (T := "str") I1 r1 rfl
  obtain ⟨tk, rfl⟩ := r1
  refine ⟨"str", id, PySem.F.plainAttrs_str, slot, hty, h1, h2, ?_⟩
  have hA := ha.run cpos pins s1 σ H1 _ I1 q1
  rw [hs] at hA ⊢
  refine Calls.callWith_builtin (by show (false || (backTo cpos (starEach es X.env)).any (·.1)) = false; rw [hplain] <;> rfl) (Calls.evalArgs_plain ?_)
  exact thn hA fun us s2 ⟨vs, H2, I2, r2, q2⟩ => hm pins s2 σ H2 a vs tk us Q I2 r2 q2
/-- the shapes -/
def sS (C : Str → Str → Prop) (g : Str → Str → V) : Str → List V → Hp → VK → Prop := fun a xs H Q => match xs with
  | [.str b] => C a b ∧ Q (g a b) H
  | _ => False
def sS0 (g : Str → Str → V) : Str → List V → Hp → VK → Prop := fun a xs H Q => match xs with
  | [.str b] => Q (g a b) H
  | _ => False
def sN (C : Str → Prop) (g : Str → V) : Str → List V → Hp → VK → Prop := fun a xs H Q => match xs with
  | [] => C a ∧ Q (g a) H
  | _ => False
abbrev mStartswith := sS0 fun a b => .bl (Txt.startswith a b)
abbrev mCount := sS0 fun a b => .int (Txt.count a b)
abbrev mStrip := sS (fun a _ => a.length ≤ sizeLine) fun a b => .str (Txt.stripChars a b)
abbrev mLstrip := sS (fun a _ => a.length ≤ sizeLine) fun a b => .str (Txt.lstripChars a b)
theorem m_startswith : MtS' X "str.startswith" mStartswith := .of mt_startswith fun a xs H Q h => by
  match xs, h with
  | [.str b], h => exact ⟨a, b, rfl, rfl, h⟩
theorem m_count : MtS' X "str.count" mCount := .of mt_count fun a xs H Q h => by
  match xs, h with
  | [.str b], h => exact ⟨a, b, rfl, rfl, h⟩
theorem m_strip : MtS' X "str.strip" mStrip := .of mt_stripChars fun a xs H Q h => by
  match xs, h with
  | [.str b], h => exact ⟨a, b, rfl, rfl, h.1, h.2⟩
theorem m_lstrip : MtS' X "str.lstrip" mLstrip := .of mt_lstripChars fun a xs H Q h => by
  match xs, h with
  | [.str b], h => exact ⟨a, b, rfl, rfl, h.1, h.2⟩
def mSplit : Str → List V → Hp → VK → Prop := fun a xs H Q => match xs with
  | [.str b] => (b.length == 0) = false ∧ a.length + 2 ≤ sizeLine ∧ ∀ p, H p = none → Q (.ref p) (upd H p (.lst ((Txt.split a b).map V.str)))
  | _ => False
theorem m_split : MtS' X "str.split" mSplit := .of mt_split fun a xs H Q h => by
  match xs, h with
  | [.str b], h => exact ⟨a, b, rfl, rfl, h.1, h.2.1, h.2.2⟩
inductive JoinP (K : PySem.W.Frag) (a : Str) (p : Addr) (H : Hp) (Q : VK) : Prop where
  | l {ys : List Str} (h : SqL K H p (ys.map V.str)) (hl : (Txt.join a ys).length ≤ 16777216) (k : Q (.str (Txt.join a ys)) H)
def mFind : Str → List V → Hp → VK → Prop := fun a xs H Q => match xs with
  | [.str b] => Q (.int (Txt.find a b)) H
  | [.str b, .int i] => Q (.int (Txt.find3 a b i)) H
  | _ => False
theorem m_find : MtS' X "str.find" mFind := fun pins s σ H a xs tk us Q I rx q => by
  match xs, rx, q with
  | [.str b], rx, q => exact mt_find pins s σ H (.str a) _ (.str a tk) us Q I (show RelV (.str a) (.str a tk) from ⟨tk, rfl⟩) rx ⟨a, b, rfl, rfl, q⟩
  | [.str b, .int i], rx, q => exact mt_find3 pins s σ H (.str a) _ (.str a tk) us Q I (show RelV (.str a) (.str a tk) from ⟨tk, rfl⟩) rx ⟨a, b, i, rfl, rfl, q⟩
def mZfill : Str → List V → Hp → VK → Prop := fun a xs H Q => match xs with
  | [.int i] => PadOk i = true ∧ Q (.str (Txt.zfill a i)) H
  | _ => False
theorem m_zfill : MtS' X "str.zfill" mZfill := .of mt_zfill fun a xs H Q h => by
  match xs, h with
  | [.int i], h => exact ⟨a, i, rfl, rfl, h.1, h.2⟩
def mUpper : Str → List V → Hp → VK → Prop := sN (fun a => a.length ≤ 5592405) fun a => .str (Txt.upper a)
theorem m_upper : MtS' X "str.upper" mUpper := .of mt_upper fun a xs H Q h => by
  match xs, h with
  | [], h => exact ⟨a, rfl, rfl, h.1, h.2⟩
end
section
variable {X : Cx} {o e : Expr} {es : List Expr} {to : TE} {t : TA}
inductive AppP (p : Addr) (y : V) (H : Hp) (Q : VK) : Prop where
  | by {xs : List V} (h : H p = some (.lst xs)) (hl : xs.length < sizeLine) (k : Q .non (upd H p (.lst (xs ++ [y]))))
inductive IsLst (K : PySem.W.Frag) (x : V) (H : Hp) (R : Addr → Prop) : Prop where
  | by {p : Addr} {xs : List V} (e : x = .ref p) (h : SqL K H p xs) (k : R p)
def cApp (K : PySem.W.Frag) (to : TE) (t : TA) : TE := fun σ H Q => to σ H fun x H1 => IsLst K x H1 fun p => t σ H1 fun ys H2 => match ys with
  | [y] => AppP p y H2 Q
  | _ => False
theorem pe_cApp {apos cpos : Pos} (ho : PE X o to) (ha : PA X [e] t)
    (hbase : attributeBase o "append" X.env (eval o X.env) = eval o X.env := by rfl)
    (hfew : ((backTo cpos (starEach [e] X.env)).all (fun x => !x.1) && (backToKw cpos (keywordEach [] X.env)).all (fun x => x.1.isSome)
      && decide ([e].length + ([] : List Keyword).length + (if ([] : List Keyword).isEmpty then 0 else 1) < 30)) = true := by rfl)
    (hline : (apos.endLine == cpos.line) = true := by rfl) (hs : starEach [e] X.env = (false, eval e X.env) :: starEach [] X.env := by rfl) (hplain : (backTo cpos (starEach [] X.env)).any (·.1) = false := by rfl) :
    PE X (.Call (.Attribute o "append" apos) [e] [] cpos) (cApp X.K to t) := by
  refine ⟨fun pins s σ H Q I h => ?_⟩
  refine wpAny_Call_method_late hbase hfew hline rfl (thn (ho.run pins s σ H _ I h) fun v s1 ⟨x, H1, I1, r1, q1⟩ => ?_)
  obtain ⟨ex, hx, q1⟩ := q1
  rename_i p xs
  subst ex
  obtain ⟨h1, h2⟩ := tyV_is (T := "list") I1 r1 (.inl ⟨rfl, _, hx⟩)
  refine ⟨"list", "list.append", PySem.F.plainAttrs_list, PySem.F.slot_list_append, PySem.F.type_list_append, h1, h2, ?_⟩
  have hA := ha.run cpos pins s1 σ H1 _ I1 q1
  rw [hs] at hA ⊢
  refine Calls.callWith_builtin (by show (false || (backTo cpos (starEach [] X.env)).any (·.1)) = false; rw [hplain] <;> rfl) (Calls.evalArgs_plain ?_)
  refine thn hA fun us s2 ⟨vs, H2, I2, r2, q2⟩ => ?_
  match vs, r2, q2 with
  | [y], r2, q2 =>
    obtain ⟨h, hl, k⟩ : AppP p y H2 Q := q2
    exact mt_append pins s2 σ H2 _ _ v us Q I2 r1 r2 ⟨p, _, y, rfl, rfl, h, hl, k⟩
end
section
inductive StIx (p : Addr) (k : Int) (v : V) (H : Hp) (Q : Hp → Prop) : Prop where
  | by {xs : List V} {j : Nat} (h : H p = some (.lst xs)) (hj : ixN xs.length k = some j) (q : Q (upd H p (.lst (xs.set j v))))
def cSetIx : V → V → V → Hp → (Hp → Prop) → Prop := fun o i v H Q => match o with
  | .ref p => (match i with
    | .int k => StIx p k v H Q
    | _ => False)
  | _ => False
variable {X : Cx}
theorem set_c : PSet X cSetIx := by
  intro pins s σ H x y v ov iv u Q I rx ry rv h
  cases x <;> first
    | exact (show False from h).elim
    | skip
  cases y <;> first
    | exact (show False from h).elim
    | skip
  obtain ⟨h, hj, q⟩ : StIx _ _ v H Q := h
  exact set_list pins s σ H _ _ v ov iv u Q I rx ry rv ⟨_, _, _, _, rfl, rfl, h, hj, q⟩
end
section
variable {X : Cx} {j : Nat}
/-- p + q by the class's own __add__ -/
inductive OwAdd (g : Wd) (j : Nat) (p q : Addr) (H : Hp) (Q : VK) : Prop where
  | by {C dx dx' f : Addr} {fs fs' : List (Str × V)} {k : Nat} {sp : Sp} (h : H p = some (.ins C dx fs)) (h' : H q = some (.ins C dx' fs')) (hc : PySem.W.selfFirst g.K C = true)
      (hs : PySem.W.findIn g.K (.ref C) (PySem.dunder Operator.Add.info.2) = some (some (.ref f))) (hf : PySem.W.isFn g.K (.ref f) = true) (F : FnG g k f sp) (hk : k ≤ j) (q : sp [.ref p, .ref q] H Q E0)
theorem owAdd_ok (hr : Room j X.A) : OwOk X (OwAdd (.of X) j) := by
  intro pins s σ H x y v u Q I rx ry h
  obtain ⟨p, q, rfl, rfl, h⟩ := h
  obtain ⟨h, h', hc, hs, hf, F, hk, q⟩ := h
  rename_i C dx dx' f fs fs' k sp
  cases rx
  cases ry
  obtain ⟨mA, O, _, _, _, _⟩ := ins_get I.hok h
  obtain ⟨od, J, _⟩ := O.look
  obtain ⟨mA', O', _, _, _, _⟩ := ins_get I.hok h'
  obtain ⟨od', J', _⟩ := O'.look
  obtain ⟨m, Fm⟩ := I.fr
  refine PySem.W.binop_K Fm I.ok.mod.kin J J'.type hc hs hf (wpAny_call (codeAny_mono (F X.A X.stack s H [.ref p, .ref _] [.ref p, .ref _] _ E0 (hr.mono hk) I.env0 (.cons rfl (.cons rfl .nil)) q) fun r s' hq => ?_))
  cases r with
  | error er =>
    obtain ⟨_, _, _, _, _, _, _, _, _, _, _, _, z⟩ := hq
    exact z.elim
  | ok fl =>
    cases fl with
    | ret u =>
      obtain ⟨v, H', I3, rv, q3⟩ := I.after hq
      have z : EP X pins σ Q u s' := ⟨v, H', I3, rv, q3⟩
      cases v with
      | non => cases rv; exact z
      | bl _ => cases rv; exact z
      | int _ => obtain ⟨t, rfl⟩ := rv; exact z
      | str _ => obtain ⟨t, rfl⟩ := rv; exact z
      | byt _ => obtain ⟨t, rfl⟩ := rv; exact z
      | flt _ => obtain ⟨t, rfl⟩ := rv; exact z
      | ref _ => cases rv; exact z
      | ty _ => cases rv; exact z
    | next => exact False.elim hq
    | brk => exact False.elim hq
    | cont => exact False.elim hq
end
section
variable {X : Cx} {W : WX} {j : Nat} {x : Str} {p pos : Pos} {e : Expr} {es : List Expr} {t : TA}
/-- C(..): __init__'s promise at the new instance -/
inductive MakeP (g : Wd) (j : Nat) (C : Addr) (vs : List V) (H : Hp) (Q : VK) (E : XK) : Prop where
  | by {f : Addr} {k : Nat} {sp : Sp} (M : Mk g.K C f) (F : FnG g k f sp) (hk : k + 1 ≤ j) (h : ∀ x dx, H x = none → H dx = none → dx ≠ x → sp (.ref x :: vs) (upd (upd H dx (.own x)) x (.ins C dx [])) (fun v H2 => v = .non ∧ Q (.ref x) H2) E)
def cMake (g : Wd) (j : Nat) (W : WX) (C : Addr) (t : TA) : TE := fun σ H Q => t σ H fun vs H1 => MakeP g j C vs H1 Q (fun cls d H' => W cls d σ H')
theorem run_makeP {C : Addr} {E : XK} {pins : List (Addr × Obj)} {σ : St} {H : Hp} {s : Shared} {Q : VK} {us : List Value} {vs : List V} (hr : Room j X.A) (hx : PassesAt (L2.CX X.prog X.w) X σ E) (I : Inv X pins σ H s) (r : Vals vs us) (h : MakeP (.of X) j C vs H Q E) :
    wpAny (model X.prog X.w) X.A (call (.ref C) us) (EP X pins σ Q) X.xe s := by
  obtain ⟨M, F, hk, h⟩ := h
  have hq := h (s.heap.objs.size + 1) s.heap.objs.size (I.hok.fresh (Nat.le_succ _)) (I.hok.fresh (Nat.le_refl _)) (Nat.ne_of_lt (Nat.lt_succ_self _))
  have I2 := Inv.made (C := C) I
  refine wpAny_call (make_map I.kIn M.makes M.init (beq_iff_eq.mp M.fn) (codeAny_mono (F _ X.stack _ _ (Value.ref (s.heap.objs.size + 1) :: us) (V.ref (s.heap.objs.size + 1) :: vs) _ E ((hr.mono hk).make C us [])
    (I2.env0.make C us []) (.cons rfl r) hq) fun r s' hq' => ?_))
  cases r with
  | error e => exact hx pins _ _ e s' I2 hq'
  | ok fl =>
    cases fl with
    | ret u =>
      obtain ⟨v, H', I3, rv, ev, q3⟩ := I2.after hq'
      subst ev
      exact ⟨rv, ⟨V.ref (s.heap.objs.size + 1), H', I3, rfl, q3⟩⟩
    | next => exact False.elim hq'
    | brk => exact False.elim hq'
    | cont => exact False.elim hq'
theorem pe_cMake (tk : Takes X W) (hr : Room j X.A) (hf : Gf (.of X) x) (hg : Gl X x) (ha : PA X (e :: es) t) (hdb : (x == ("__debug__" : Str)) = false := by decide) (he : starEach (e :: es) X.env = (false, eval e X.env) :: starEach es X.env := by rfl)
    (hpl : (backTo pos (starEach es X.env)).any (·.1) = false := by rfl) : PE X (.Call (.Name x p) (e :: es) [] pos) (cMake (.of X) j W (gad X.K x) t) := by
  refine ⟨fun pins s σ H Q I h => ?_⟩
  refine wpAny_Call_Name_kw (ld_glob I hg hf.mg ?_ hdb)
  refine PySem.W.callWith_K (h₀ := X.base) I.ok.mod.kin hf.kp (thn (ha.run pos pins s σ H _ I h) fun us s1 ⟨vs, H1, I1, r, q⟩ => ⟨I1.kIn, ?_⟩) he hpl
  exact run_makeP hr (passAt tk σ) I1 r q
theorem pe_cMake0 (tk : Takes X W) (hr : Room j X.A) (hf : Gf (.of X) x) (hg : Gl X x) (hdb : (x == ("__debug__" : Str)) = false := by decide) : PE X (.Call (.Name x p) [] [] pos) (cMake (.of X) j W (gad X.K x) tNil) := by
  refine ⟨fun pins s σ H Q I h => ?_⟩
  refine wpAny_Call_Name_kw (ld_glob I hg hf.mg ?_ hdb)
  exact PySem.W.callWith_K0 I.kIn hf.kp (run_makeP (us := []) hr (passAt tk σ) I .nil h)
/-- C(*e): what is spread -/
inductive StarP (g : Wd) (y : V) (H : Hp) (R : List V → Prop) : Prop where
  | t {a : Addr} {xs : List V} (e : y = .ref a) (h : SqT g.K H a xs) (k : R xs)
  | l {a : Addr} {xs : List V} (e : y = .ref a) (h : SqL g.K H a xs) (k : R xs)
def cMakeS (g : Wd) (j : Nat) (W : WX) (C : Addr) (te : TE) : TE := fun σ H Q => te σ H fun y H1 => StarP g y H1 fun xs => MakeP g j C xs H1 Q (fun cls d H' => W cls d σ H')
theorem pe_cMakeS {te : TE} {sp_ : Pos} (tk : Takes X W) (hr : Room j X.A) (hf : Gf (.of X) x) (hg : Gl X x) (he : PE X e te) (hdb : (x == ("__debug__" : Str)) = false := by decide)
    (hst : starEach [.Starred e sp_] X.env = [(true, eval e X.env)] := by rfl) : PE X (.Call (.Name x p) [.Starred e sp_] [] pos) (cMakeS (.of X) j W (gad X.K x) te) := by
  refine ⟨fun pins s σ H Q I h => ?_⟩
  refine wpAny_Call_Name_kw (ld_glob I hg hf.mg ?_ hdb)
  refine PySem.W.callWith_S (h₀ := X.base) I.ok.mod.kin hf.kp (thn (he.run pins s σ H _ I h) fun v s1 ⟨y, H1, I1, ry, q⟩ => ?_) hst
  cases q with
  | t ey hxs q =>
    subst ey
    obtain rfl : v = Value.ref _ := ry
    exact StX.star_any I1 (.inl hxs) fun us s2 I2 rv => ⟨I2.kIn, run_makeP hr (passAt tk σ) I2 rv q⟩
  | l ey hxs q =>
    subst ey
    obtain rfl : v = Value.ref _ := ry
    exact StX.star_any I1 (.inr hxs) fun us s2 I2 rv => ⟨I2.kIn, run_makeP hr (passAt tk σ) I2 rv q⟩
end
end Cy
namespace Cy
open PySem PySem.Spec PyProof.Rows L2
open PySem.W (fnX envX ksFn ksEnv ks_superObj kxs_mw KxsAt)
section
variable {prog : Program} {w : World} {A : Around} {E : Value → Shared → Prop} {h : Heap} {g : Array GenState} {d : Drawn} {t : Nat} {os : OsState}
variable {nm q : Str} {C N : Addr} {bs bm : List Value} {hdct : Bool} {sn : List Str} {sub : List Value} {ab : Bool} {col : Option Bool} {dd : Option Addr} {k0 k1 k2 k3 k5 : Option Value}
theorem call_bwV {u e t0 : Addr} {rest : List Value} {Q : Value → Shared → Prop} (hbm : HandSPX.refsVE bm = true)
    (hC : h.get? C = some (excClassObj nm q C N bs bm hdct sn sub ab col dd k0 k1 k2 k3 k5 "ValueError.__new__")) (he : h.get? e = some (HandSPX.excO C t0)) (hu : h.get? u = some (kxs_mw "ValueError.__init__" e)) (hrest : rest.length ≤ sizeLine)
    (hq : ∀ h' t1, (∀ b o, b ≠ e → h.get? b = some o → h'.get? b = some o) → h'.get? e = some (HandSPX.excO C t1) → Q .none ⟨h', g, d, t, os⟩) :
    wpAny (model prog w) A (call (.ref u) rest) Q E ⟨h, g, d, t, os⟩ := by
  refine wpAny_call (codeAny_of_tree ?_)
  show wpAny _ A.in1 (callAny (.ref u) ⟨rest, []⟩) _ _ _
  simp only [callAny]
  refine wpAny_bind (wpAny_load hu ?_)
  simp only [kxs_mw, show (Value.type "method-wrapper" == Value.type "method" || Value.type "method-wrapper" == Value.type "builtin_function_or_method" || Value.type "method-wrapper" == Value.type "method-wrapper") = true by decide, if_true]
  refine W.KFB.if_so (by decide) ?_
  refine wpAny_bind (PySem.W.check_bound_init F.excBase_ValueError.toExcCallFacts hC he rfl ?_)
  refine wpAny_bind (wpAny_pure (wpAny_pure ?_))
  refine ⟨Code.quiet_builtin _ (by decide +kernel), codeAny_builtin F.excBase_ValueError.initEntry ?_⟩
  rw [Around.under_plainId F.excBase_ValueError.init.plain _]
  wp_walk
  refine hq _ h.objs.size (fun b o hb ho => ?_) ?_
  · rw [Heap.get?_update_other _ _ (Ne.symm hb)]
    exact Heap.get?_push_of_some _ ho
  · rw [Heap.get?_update_self _ (Heap.get?_push_of_some _ he) rfl]
    rfl
end
/-- the context of such an __init__ -/
def cxS (CX : CXT) (P : Program) (w : World) (K : PySem.W.Frag) (mg : Str → Option Value) (base : Heap) (N : List Str) (qual : Str) (scope : Scope) (f : Addr) (cd : Value) (cc : Addr) (A : Around) (outer : List Env) (s : Shared) (H : Hp) (E : XK) : Cx :=
  { cxOf CX P w K mg base N qual scope f cd A outer s H E with
    A := A.deeper (ksEnv qual scope s.heap.objs.size f cd cc)
    env := ksEnv qual scope s.heap.objs.size f cd cc
    stack := ksEnv qual scope s.heap.objs.size f cd cc :: outer
    fn := fun _ => false
    xe := fun e s' => wpAny (model P w) (A.deeper (ksEnv qual scope s.heap.objs.size f cd cc)) (leaving (ksEnv qual scope s.heap.objs.size f cd cc) e) (fun _ s'' => CX outer H s E e s'') (fun e' s'' => CX outer H s E e' s'') s' }
/-- its scope -/
def supScope (fld : Str) : Scope := { kind := .function, names := [(PySem.Str.ofString "self", .local), (fld, .local), (PySem.Str.ofString "__class__", .free), (PySem.Str.ofString "super", .globalImplicit)], isGenerator := false, isCoroutine := false, more := [] }
def supParams (fld : Str) (q1 q2 : Pos) : Arguments := { posonlyargs := [], args := [{ arg := "self", annotation := none, pos := q1 }, { arg := fld, annotation := none, pos := q2 }], vararg := none, kwonlyargs := [], kw_defaults := [], kwarg := none, defaults := [] }
/-- what the written part says of such an __init__ (at f, of the class at C) -/
structure SupD (P : Program) (K : PySem.W.Frag) (C f : Addr) (name qual : Str) (params : Arguments) (body : List Stmt) (scope : Scope) (cc : Addr) (cdv : Value) : Prop where
  fn : ∃ oc od kV doc pm an ct osl, K.lookup f = some ⟨oc, od, .func (ksFn name qual params body scope .none kV doc pm an cdv ct cc), osl⟩
  code : PySem.W.codeIn K cdv qual = true
  rec_ : ∃ cda ccl cdd vs ccs file tf, cdv = .ref cda ∧ K.lookup cda = some ⟨ccl, cdd, .fields vs, ccs⟩ ∧ vs[2]? = some (.str file tf) ∧ ((P.main.file : Str) == file) = true
  cell : ∃ cl cld csl, K.lookup cc = some ⟨cl, cld, .cell (some (.ref C)), csl⟩
  sup : PySem.W.nsIn K mainGlobals "super" = some none
  opq : PySem.W.nsIn K cStatics "thirdparty.any" = some none
  mro : PySem.W.mroIn K C (.ref C) = some true
  along : PySem.W.ks_superIn K C C "__init__" = some (some (.builtin "ValueError.__init__"))
  subV : PySem.W.subIn K (.ref C) (.type "ValueError") = some true
  top : (P.main.scope.names.lookup ("super" : Str)).isSome = false
structure FldN (fld : Str) : Prop where
  n1 : fld ≠ "self"
  n2 : fld ≠ "__class__"
  n3 : fld ≠ "super"
/-- the exception's promise: self a new exception, v its field; its dict is new -/
def spSup (C : Addr) (fld : Str) (ok : V → Prop) : Sp := fun vs H Q _ => ∃ (a : Addr) (v : V), vs = [.ref a, v] ∧ H a = some (exo a C none) ∧ ok v ∧ ∀ dx, H dx = none → dx ≠ a → Q .non (upd (upd H dx (exd dx [(fld, v)])) a (exo a C (some dx)))
theorem lk_one {β : Type} {y k : Str} {c c0 : β} (h : List.lookup y [(k, c0)] = some c) : y = k ∧ c0 = c := by
  by_cases e : y = k
  · subst e
    simp [List.lookup] at h
    exact ⟨rfl, h⟩
  · have b : (y == k) = false := by simpa using e
    simp [List.lookup, b] at h
theorem sup_fn {P : Program} {w : World} {K : PySem.W.Frag} {mg : Str → Option Value} {base : Heap} {C f cc : Addr} {name qual fld : Str} {cdv : Value} {je : Expr} {tj : TE} {q1 q2 p0 p1 p2 p3 p4 p5 p6 p7 p8 : Pos} {k : Nat} {ok : V → Prop}
    (S : SupD P K C f name qual (supParams fld q1 q2) [.Expr (.Call (.Attribute (.Call (.Name "super" p0) [] [] p1) "__init__" p2) [je] [] p3) p4, .Assign [.Attribute (.Name "self" p5) fld p6] (.Name fld p7) p8] (supScope fld) cc cdv) (T : OexC K C) (hno : PySem.W.findIn K (.ref C) fld = some none) (hf : FldN fld)
    (hb0 : ∀ (body : List Stmt) (kV doc pm : Value) (an : Option Addr) (cdv ct : Value) (cc : Addr) (x y : Value), bindArgs (ksFn name qual (supParams fld q1 q2) body (supScope fld) .none kV doc pm an cdv ct cc) ⟨[x, y], []⟩ = pure [(("self" : Str), x), (fld, y)])
    (hse : ∀ env : Env, starEach [je] env = (false, eval je env) :: starEach [] env)
    (hev : ∀ (L : Addr), ∃ pl : Sem Bool, eval (.Call (.Attribute (.Call (.Name "super" p0) [] [] p1) "__init__" p2) [je] [] p3) (ksEnv qual (supScope fld) L f cdv cc) = (do
        let ov ← attributeBase (.Call (.Name "super" p0) [] [] p1) "__init__" (ksEnv qual (supScope fld) L f cdv cc) (eval (.Call (.Name "super" p0) [] [] p1) (ksEnv qual (supScope fld) L f cdv cc))
        standAt p2.atName
        let (f', first) ← holding [ov] (getMethod ov "__init__" pl)
        callWith p3 f' first (backTo p3 (starEach [je] (ksEnv qual (supScope fld) L f cdv cc))) []))
    (hsw : ∀ L : Addr, swapsWith (.Call (.Attribute (.Call (.Name "super" p0) [] [] p1) "__init__" p2) [je] [] p3) none p4.line (ksEnv qual (supScope fld) L f cdv cc) = pure false)
    (hsw2 : ∀ L : Addr, swapsWith (.Name fld p7) (some (.Attribute (.Name "self" p5) fld p6)) p8.line (ksEnv qual (supScope fld) L f cdv cc) = pure false)
    (hd : (fld == ("__debug__" : Str)) = false) (hcd : (fld == ("__classdict__" : Str)) = false)
    (hj : ∀ (A : Around) (outer : List Env) (s : Shared) (H : Hp) (E : XK), PE (cxS (L2.CX P w) P w K mg base ["self", fld] qual (supScope fld) f cdv cc A outer s H E) je tj)
    (htj : ∀ (a v : V) (H : Hp) (Q : VK), ok v → (∀ z : Str, Q (.str z) H) → tj [some a, some v] H Q) :
    FnG ⟨P, w, K, mg, base⟩ (k + 1) f (spSup C fld ok) := by
  intro A outer s H us vs Q E hr e0 r hsp
  obtain ⟨a, v, rfl, ha, okv, kq⟩ := hsp
  obtain ⟨u1, u, rfl, ru1, ru⟩ := vals2 r
  obtain rfl : u1 = Value.ref a := ru1
  obtain ⟨oc, od, kV, doc, pm, an, ct, osl, lk⟩ := S.fn
  have KX : K.In s.heap := e0.mod.kin.keeps fun b o e => (e0.bs b o e).1
  have lim : s.heap.NoLimit := e0.mod.nolimit.keeps fun b o e => (e0.bs b o e).1
  have n1 : (fld == ("self" : Str)) = false := by simpa using hf.n1
  have n2 : (fld == ("__class__" : Str)) = false := by simpa using hf.n2
  have n3 : (fld == ("super" : Str)) = false := by simpa using hf.n3
  have ls : (supScope fld).names.lookup ("self" : Str) = some .local := rfl
  have lf : (supScope fld).names.lookup fld = some .local := by
    show List.lookup fld [(PySem.Str.ofString "self", NameKind.local), (fld, .local), (PySem.Str.ofString "__class__", .free), (PySem.Str.ofString "super", .globalImplicit)] = _
    simp [List.lookup, n1]
  have m2 : (("__class__" : Str) == fld) = false := by simpa using fun z => hf.n2 z.symm
  have m3 : (("super" : Str) == fld) = false := by simpa using fun z => hf.n3 z.symm
  have lc : (supScope fld).names.lookup ("__class__" : Str) = some .free := by
    show List.lookup ("__class__" : Str) [(PySem.Str.ofString "self", NameKind.local), (fld, .local), (PySem.Str.ofString "__class__", .free), (PySem.Str.ofString "super", .globalImplicit)] = _
    have e : (("__class__" : Str) == PySem.Str.ofString "self") = false := by decide +kernel
    simp only [List.lookup, e, m2]
    rfl
  have lp : (supScope fld).names.lookup ("super" : Str) = some .globalImplicit := by
    show List.lookup ("super" : Str) [(PySem.Str.ofString "self", NameKind.local), (fld, .local), (PySem.Str.ofString "__class__", .free), (PySem.Str.ofString "super", .globalImplicit)] = _
    have e : (("super" : Str) == PySem.Str.ofString "self") = false := by decide +kernel
    have e2 : (("super" : Str) == PySem.Str.ofString "__class__") = false := by decide +kernel
    simp only [List.lookup, e, m3, e2]
    rfl
  have free1 : ∀ x k, (supScope fld).names.lookup x = some k → (k = .cell ∨ k = .free) → x = ("__class__" : Str) := by
    intro x k hx hk
    by_cases e1 : x = PySem.Str.ofString "self"
    · subst e1; rw [show (supScope fld).names.lookup (PySem.Str.ofString "self") = some .local from ls] at hx; cases hx; rcases hk with h | h <;> cases h
    by_cases e2 : x = fld
    · subst e2; rw [lf] at hx; cases hx; rcases hk with h | h <;> cases h
    by_cases e3 : x = PySem.Str.ofString "__class__"
    · exact e3
    by_cases e4 : x = PySem.Str.ofString "super"
    · subst e4; rw [show (supScope fld).names.lookup (PySem.Str.ofString "super") = some .globalImplicit from lp] at hx; cases hx; rcases hk with h | h <;> cases h
    · have z : (supScope fld).names.lookup x = none := by
        show List.lookup x [(PySem.Str.ofString "self", NameKind.local), (fld, .local), (PySem.Str.ofString "__class__", .free), (PySem.Str.ofString "super", .globalImplicit)] = none
        have b1 : (x == PySem.Str.ofString "self") = false := by simpa using e1
        have b2 : (x == fld) = false := by simpa using e2
        have b3 : (x == PySem.Str.ofString "__class__") = false := by simpa using e3
        have b4 : (x == PySem.Str.ofString "super") = false := by simpa using e4
        simp [List.lookup, b1, b2, b3, b4]
      rw [z] at hx; cases hx
  have bnd : ∀ z : Str, (([(("self" : Str), Value.ref a), (fld, u)] : List (Str × Value)).reverse.lookup z) = if z = fld then some u else if z = "self" then some (.ref a) else none := by
    intro z
    show (([(fld, u), (("self" : Str), Value.ref a)] : List (Str × Value)).lookup z) = _
    by_cases h1 : z = fld
    · subst h1; simp [List.lookup]
    · have e1 : (z == fld) = false := by simpa using h1
      by_cases h2 : z = ("self" : Str)
      · subst h2; simp [List.lookup, e1, h1]
      · have e2 : (z == ("self" : Str)) = false := by simpa using h2
        simp [List.lookup, e1, e2, h1, h2]
  refine ks_codeAny_call_defAt (fd := ksFn name qual (supParams fld q1 q2) _ (supScope fld) .none kV doc pm an cdv ct cc) (binds := [("self", .ref a), (fld, u)]) hr.depth (KX _ _ lk) rfl lim (PySem.W.codeRec_of KX S.code) rfl ?hb ?hc ?hl ?h rfl rfl rfl
  case hb => exact BindsTo.of_eq (hb0 _ _ _ _ _ _ _ _ _ _)
  case hc =>
    intro x hx
    simp only [supScope, List.mem_cons, List.not_mem_nil, or_false] at hx
    rcases hx with rfl | rfl | rfl | rfl <;> exact fun z => nomatch z
  case hl =>
    intro x hx
    simp only [List.mem_cons, List.not_mem_nil, or_false] at hx
    rcases hx with rfl | rfl
    · exact ls
    · exact lf
  case h =>
    intro h0 hns hk
    let X : Cx := cxS (L2.CX P w) P w K mg base ["self", fld] qual (supScope fld) f cdv cc A outer s H E
    have hcc : ∃ o, K.lookup cc = some o ∧ o.data = .cell (some (.ref C)) := by
      obtain ⟨cl, cld, csl, e⟩ := S.cell
      exact ⟨_, e, rfl⟩
    obtain ⟨occ, ecc, dcc⟩ := hcc
    have bcc : base.get? cc = some occ := e0.mod.kin _ _ ecc
    have hL : s.heap.objs.size ≤ s.heap.objs.size := Nat.le_refl _
    have noA : ∀ b : Addr, b ∉ X.ex := fun b z => absurd (show b ∈ ([] : List Addr) from z) (by simp)
    have I : L2.Inv X [] [some (.ref a), some v] H { s with heap := h0, toks := s.toks + 2 } := by
      refine ⟨⟨e0.mod, rfl, rfl, rfl, Nat.le_refl _, fun y z c h1 h2 => ?_, fun y hy => ?_, fun y c q h => (nomatch q), fun _ => hr.hd, Around.frames_deeper e0.frames, .inr ⟨rfl, rfl⟩, fun b z => absurd z (noA b), e0.bs, e0.bsz, fun b _ _ => noA b, fun b z => absurd z (noA b), e0.funs, e0.frf⟩,
        rfl, e0.bare, Un.kept hk, ⟨_, hns, fun i y v' h1 h2 h3 => ?_⟩, fun y c h => ?_, e0.hok.fresh (Nat.le_refl _), fun y c h => ?_, fun p hp => absurd (show p ∈ ([] : List (Addr × Obj)) from hp) (by simp), e0.hok.kept hk, rfl⟩
      · exact (lk_one (show List.lookup y [(("__class__" : Str), cc)] = some c from h1)).1.trans (lk_one (show List.lookup z [(("__class__" : Str), cc)] = some c from h2)).1.symm
      · have hy : (supScope fld).names.lookup y = some .cell ∨ (supScope fld).names.lookup y = some .free := hy
        have e : y = ("__class__" : Str) := by
          rcases hy with hy | hy
          · exact free1 y _ hy (.inl rfl)
          · exact free1 y _ hy (.inr rfl)
        subst e
        exact ⟨cc, rfl⟩
      · have hv : (supScope fld).names.lookup y = some .local := by
          rcases h3 with q | q | q
          · exact q
          · have e := free1 y _ q (.inl rfl)
            subst e
            exact absurd (lc.symm.trans q) (by decide)
          · have e := free1 y _ q (.inr rfl)
            subst e
            match i, h1 with
            | 0, h1 => exact absurd (Option.some.inj h1) (by decide +kernel)
            | 1, h1 => exact absurd (Option.some.inj h1) hf.n2
        match i, h1, h2 with
        | 0, h1, h2 =>
          obtain rfl : (PySem.Str.ofString "self") = y := Option.some.inj h1
          obtain rfl : V.ref a = v' := Option.some.inj (Option.some.inj h2)
          refine ⟨.ref a, rfl, .inl ⟨hv, ?_⟩⟩
          exact (bnd "self").trans ((if_neg (fun z => hf.n1 z.symm)).trans (if_pos rfl))
        | 1, h1, h2 =>
          obtain rfl : fld = y := Option.some.inj h1
          obtain rfl : v = v' := Option.some.inj (Option.some.inj h2)
          refine ⟨u, ru, .inl ⟨hv, ?_⟩⟩
          exact (bnd fld).trans (if_pos rfl)
      · obtain ⟨_, rfl⟩ := lk_one (show List.lookup y [(("__class__" : Str), cc)] = some c from h)
        exact ⟨_, occ, hk _ _ (e0.bs _ _ bcc).1, dcc⟩
      · obtain ⟨_, rfl⟩ := lk_one (show List.lookup y [(("__class__" : Str), cc)] = some c from h)
        exact (e0.bs _ _ bcc).2
    obtain ⟨cda, ccl, cdd, vs, ccs, file, tf, rfl, lcd, hvs, hfile⟩ := S.rec_
    have KX0 : K.In h0 := KX.keeps hk
    obtain ⟨cd, hcl⟩ : ∃ cd, PySem.W.clsIn K C = some cd := by
      cases e : PySem.W.clsIn K C with
      | some cd => exact ⟨cd, rfl⟩
      | none =>
        have z := S.along
        unfold PySem.W.ks_superIn at z
        rw [e] at z
        cases z
    obtain ⟨oD, hD0, hDd⟩ : ∃ oD, K.lookup C = some oD ∧ oD.data = .cls cd := by
      have q := hcl
      unfold PySem.W.clsIn at q
      split at q
      · rename_i c d cd' sl ho
        cases q
        exact ⟨_, ho, rfl⟩
      · cases q
    obtain ⟨mb, hbl, hbb⟩ := e0.mod.blt
    obtain ⟨pl, hev⟩ := hev s.heap.objs.size
    refine PySem.ks_wpAt_execs_cons (PySem.ks_wpAt_Expr_any (PySem.ks_wpAt_MethodCall (pl := pl) ?_ hev) rfl (hsw _))
    refine PySem.ks_wpAt_super_base (env := ksEnv qual (supScope fld) s.heap.objs.size f (.ref cda) cc) lp lc (by decide +kernel) rfl (KX0 _ _ lk) rfl rfl rfl (KX0 _ _ lcd) rfl hvs hfile S.top ?_
    refine PySem.W.ks_loadName_global rfl lp (Calls.loadGlobal_builtin (env := ksEnv qual (supScope fld) s.heap.objs.size f (.ref cda) cc) (e0.mod.glob.keeps I.bk) (PySem.W.mg_none_of e0.mod.kin e0.mod.glob S.sup) (hbl.keeps I.bk) ((hbb _ (by decide +kernel)).trans (show bootBuiltins "super" = some (.type "super") by kernel_rfl)) ⟨rfl, ?_⟩)
    refine wpAny_loadName_free rfl lc rfl ⟨_, KX0 _ _ ecc, dcc⟩ ?_
    refine wpAny_loadName_local rfl ls hns ((bnd "self").trans ((if_neg (fun z => hf.n1 z.symm)).trans (if_pos rfl))) ?_
    refine PySem.ks_wpAny_isType_cls (KX0 _ _ hD0) hDd ⟨rfl, ?_⟩
    obtain ⟨t1, hao⟩ := exo_at I.hok ha
    have IA : PySem.W.InstAt h0 a { cls := .ref C, dict := none, data := .fields #[.ref t1, .none, .none, .none, .bool false, .none] } C none := ⟨hao, rfl, rfl, trivial⟩
    refine PySem.ks_wpAny_call_super (KX0 _ _ hD0) hDd hao rfl (fun c e => nomatch e) (PySem.W.looks_mroIn KX0 S.mro) (fun h1 hso k1 => ?_)
    have I1 : L2.Inv X [] [some (.ref a), some v] H { s with heap := h1, toks := s.toks + 2 } := I.kept (t' := s.toks + 2) k1
    have KX1 : K.In h1 := KX0.keeps k1
    have hm : PySem.W.alongIn K "__init__" ((cd.mro.dropWhile (· != .ref C)).drop 1) = some (some (.builtin "ValueError.__init__")) := by
      have z := S.along
      unfold PySem.W.ks_superIn at z
      rw [hcl] at z
      exact z
    have IA1 : PySem.W.InstAt h1 a { cls := .ref C, dict := none, data := .fields #[.ref t1, .none, .none, .none, .bool false, .none] } C none := ⟨k1 _ _ hao, rfl, rfl, trivial⟩
    refine PySem.W.kxs_getMethod PySem.W.kxs_ValueError hso (PySem.W.looks_opaque KX1 S.opq) (l₀ := cd.mro) (fun A Q E s k q => wpAny_bind ((PySem.W.looks_clsIn KX1 hcl) A _ E s k (wpAny_pure q))) rfl KX1 hm (IA1.type.andThen (PySem.W.looks_subIn KX1 S.subV)) (PySem.W.ks_ne KX1 IA1 hcl) (by decide +kernel) ?_
    let mw : Addr × Obj := (h1.objs.size, kxs_mw "ValueError.__init__" a)
    have I2 : L2.Inv X [mw] [some (.ref a), some v] H { s with heap := h1.push (kxs_mw "ValueError.__init__" a), toks := s.toks + 2 + 1 } :=
      ClX.pin_new (s := { s with heap := h1, toks := s.toks + 2 }) I1 (fun b o e => Heap.get?_push_of_some _ e) (Nat.le_refl _) (Heap.get?_push_size _ rfl) (fun v z => nomatch z)
    show wpAny _ _ (callWith p3 (.ref h1.objs.size) [] (backTo p3 (starEach [je] (ksEnv qual (supScope fld) s.heap.objs.size f (.ref cda) cc))) []) _ _ _
    rw [hse]
    refine PySem.W.kxs_callWith (i := "ValueError.__init__") (x := a) rfl (Calls.evalArgs_plain ?_)
    have PA1 : PA X [je] (tCons tj tNil) := pa_cons (hj A outer s H E) pa_nil (hse _)
    have hA := PA1.run p3 [mw] _ [some (.ref a), some v] H (fun vs H' => H' = H ∧ ∃ z : Str, vs = [.str z]) I2 (htj _ _ _ _ okv fun z => ⟨rfl, z, rfl⟩)
    rw [show starEach [je] X.env = (false, eval je X.env) :: starEach [] X.env from hse _] at hA
    refine wpAny_mono hA (fun us3 s3 h3 => ?_) fun _ _ z => z
    obtain ⟨vs3, H3, I3, r3, eH, z, rfl⟩ := h3
    have eH' := eH.symm
    subst eH'
    refine ⟨ClX.pin_at I3, ?_⟩
    have hmw : s3.heap.get? h1.objs.size = some (kxs_mw "ValueError.__init__" a) := ClX.pin_at I3
    have I3' : L2.Inv X [] [some (.ref a), some v] H s3 := ClX.unpin I3
    obtain ⟨nm, q, Nn, bs, bm, sn, sub, ab, col, dd, k0, k1', k2, k3, k5, hC, hbm⟩ := T.cls
    obtain ⟨t3, ha3⟩ := exo_at I3'.hok ha
    obtain ⟨hp3, g3, d3, tk3, os3⟩ := s3
    have hl3 : us3.length ≤ sizeLine := by
      rw [← Paired.length r3, sizeLine_eq]
      exact (by decide : 1 ≤ 16777216)
    refine call_bwV hbm (I3'.kIn _ _ hC) ha3 hmw hl3 (fun h4 t4 k4 hx4 => ?_)
    have J := I3'.write (t' := tk3) (x := a) (e := a) (o := exo a C none) (by rw [ha]; exact True.intro) (.inl rfl) k4 ⟨_, hx4⟩ (exo_ok hx4)
    have eu : upd H a (exo a C none) = H := by
      funext b
      by_cases hb : b = a
      · rw [hb, upd_same, ha]
      · rw [upd_ne hb]
    rw [eu] at J
    refine wpAt_of_wpAny ?_
    have B : PSs X [.Assign [.Attribute (.Name "self" p5) fld p6] (.Name fld p7) p8] (tOst K fld (tVar 0) (tVar 1)) :=
      pss_one (ps_ost (pe_var (i := 0) rfl (.inl ls)) (pe_var (i := 1) rfl (.inl lf) hd hcd) (hsw2 _))
    have R := B.run [] _ [some (.ref a), some v] H { nx := fun _ H' => Q .non H', rt := Q } J ⟨v, rfl, .ref a, rfl, a, C, rfl, T, hno, .inl ⟨ha, fun dx n ne => kq dx n ne⟩⟩
    refine wpAny_mono R (fun fl s' hs => ?_) fun e s' hs => hs
    cases fl with
    | ret u' =>
      obtain ⟨v', σ', H', J', rv, q'⟩ := hs
      exact ⟨v', H', J'.os, J'.bare, J'.base, J'.hok, rv, q'⟩
    | next =>
      obtain ⟨σ', H', J', q'⟩ := hs
      exact ⟨.non, H', J'.os, J'.bare, J'.base, J'.hok, rfl, q'⟩
    | brk =>
      obtain ⟨_, _, _, q'⟩ := hs
      exact False.elim q'
    | cont =>
      obtain ⟨_, _, _, q'⟩ := hs
      exact False.elim q'
end Cy
namespace Cy
open PySem PySem.Spec PyProof.Rows L2
open L2H (RoomH PinOk cxH inv_startH)
section
variable {X : Cx} {W : WX} {j : Nat} {x : Str} {p pos : Pos} {e : Expr} {es : List Expr} {t : TA}
inductive RaisP (g : Wd) (j : Nat) (C : Addr) (vs : List V) (H : Hp) (Q : XK) : Prop where
  | by {f : Addr} {k : Nat} {fld : Str} {ok : V → Prop} {v : V} (T : OexC g.K C) (iC : PySem.W.findIn g.K (.ref C) "__init__" = some (some (.ref f))) (tI : PySem.W.typeIn g.K (.ref f) = some (.type "function"))
      (F : FnG g k f (spSup C fld ok)) (hk : k + 1 ≤ j) (hv : vs = [v]) (okv : ok v) (q : ∀ d, H d = none → Q (.ref C) (some d) (upd H d (.xd [(fld, v)])))
def cRais (g : Wd) (j : Nat) (C : Addr) (t : TA) : St → Hp → XK → Prop := fun σ H Q => t σ H fun vs H1 => RaisP g j C vs H1 Q
theorem pmk_c (hr : Room j X.A) (hf : Gf (.of X) x) (hg : Gl X x) (ha : PA X (e :: es) t) (hdb : (x == ("__debug__" : Str)) = false := by decide) (he : starEach (e :: es) X.env = (false, eval e X.env) :: starEach es X.env := by rfl)
    (hpl : (backTo pos (starEach es X.env)).any (·.1) = false := by rfl) : PMk X (.Call (.Name x p) (e :: es) [] pos) (cRais (.of X) j (gad X.K x) t) := by
  intro pins s σ H Q I h
  refine wpAny_Call_Name_kw (ld_glob I hg hf.mg ?_ hdb)
  refine PySem.W.callWith_K (h₀ := X.base) I.ok.mod.kin hf.kp (thn (ha.run pos pins s σ H _ I h) fun us s1 ⟨vs, H1, I1, r1, q1⟩ => ⟨I1.kIn, ?_⟩) he hpl
  obtain ⟨T, iC, tI, F, hk, hv, okv, q⟩ := q1
  rename_i f k fld ok v
  subst hv
  have Fn := F
  revert T iC tI Fn q
  show ∀ _ _ _ _ _, wpAny _ _ (call (.ref (gad X.K x)) us) _ _ _
  generalize gad X.K x = C
  intro T iC tI q Fn
  clear F
  obtain ⟨nm, qn, N, bs, bm, sn, sub, ab, col, dd, k0, k1, k2, k3, k5, hC, hbm⟩ := T.cls
  obtain ⟨hp, g, dr, tk, os⟩ := s1
  have hsz : hp.objs.size ≤ hp.objs.size + 1 := Nat.le_succ _
  have hn : H1 (hp.objs.size + 1) = none := I1.hok.fresh hsz
  have kk : ∀ b o, hp.get? b = some o → ((hp.push (PySem.W.kdv_tup us)).push (PySem.HandSPX.excO C hp.objs.size)).get? b = some o := fun b o e => Heap.get?_push_of_some _ (Heap.get?_push_of_some _ e)
  have hget : ((hp.push (PySem.W.kdv_tup us)).push (PySem.HandSPX.excO C hp.objs.size)).get? (hp.objs.size + 1) = some (PySem.HandSPX.excO C hp.objs.size) := by heap_get
  have I2 : L2.Inv X pins σ (upd H1 (hp.objs.size + 1) (exo (hp.objs.size + 1) C none)) ⟨(hp.push (PySem.W.kdv_tup us)).push (PySem.HandSPX.excO C hp.objs.size), g, dr, tk, os⟩ :=
    I1.laid (t' := tk) (a := hp.objs.size + 1) (o := exo (hp.objs.size + 1) C none) (h' := (hp.push (PySem.W.kdv_tup us)).push (PySem.HandSPX.excO C hp.objs.size)) kk hsz (exo_ok hget)
  have hus : us.length ≤ sizeLine := by
    rw [← Paired.length r1, sizeLine_eq]
    exact (by decide : 1 ≤ 16777216)
  have r2 : Vals [V.ref (hp.objs.size + 1), v] (Value.ref (hp.objs.size + 1) :: us) := .cons rfl r1
  have hr' : Room (k + 1) X.A := hr.mono hk
  have hq : spSup C fld ok [V.ref (hp.objs.size + 1), v] (upd H1 (hp.objs.size + 1) (exo (hp.objs.size + 1) C none))
      (fun v' H2 => v' = .non ∧ ∃ (d : Addr) (fs : List (Str × V)), H2 (hp.objs.size + 1) = some (exo (hp.objs.size + 1) C (some d)) ∧ H2 d = some (exd d fs) ∧ H1 d = none ∧ Q (.ref C) (some d) (upd (del H2 (hp.objs.size + 1)) d (.xd fs))) (fun _ _ _ => False) := by
    refine ⟨_, _, rfl, upd_same, okv, fun dx hdx ne => ⟨rfl, dx, [(fld, v)], upd_same, ?_, ?_, ?_⟩⟩
    · rw [upd_ne ne, upd_same]
    · rw [upd_ne ne] at hdx; exact hdx
    · have hdx' : H1 dx = none := by rw [upd_ne ne] at hdx; exact hdx
      have e : upd (del (upd (upd (upd H1 (hp.objs.size + 1) (exo (hp.objs.size + 1) C none)) dx (exd dx [(fld, v)])) (hp.objs.size + 1) (exo (hp.objs.size + 1) C (some dx))) (hp.objs.size + 1)) dx (.xd [(fld, v)]) = upd H1 dx (.xd [(fld, v)]) := by
        funext b
        by_cases hb : b = dx
        · subst hb; rw [upd_same, upd_same]
        · rw [upd_ne hb, upd_ne hb]
          by_cases hb2 : b = hp.objs.size + 1
          · subst hb2; rw [del_same, hn]
          · rw [del_ne hb2, upd_ne hb2, upd_ne hb, upd_ne hb2]
      rw [e]
      exact q dx hdx'
  refine wpAny_call (PySem.HandSPX.call_own F.excBase_ValueError (fun Y => PySem.HandSPX.refsVE_contains Y bm hbm) (I1.kIn _ _ hC) (PySem.W.looks_findIn I1.kIn iC) (fun self => PySem.W.bind_fn I1.kIn self tI) hus
    (codeAny_mono (Fn _ X.stack _ _ (Value.ref (hp.objs.size + 1) :: us) _ _ (fun _ _ _ => False) (hr'.make C us []) (I2.env0.make C us []) r2 hq) fun r s' hq' => ?_))
  cases r with
  | error er => exact passL (X := X) pins σ _ _ er s' I2 hq'
  | ok fl =>
    cases fl with
    | ret u =>
      obtain ⟨v', H2, os2, bare2, un2, hok2, rv, ev, d, fs, ea, ed, hd1, q2⟩ := hq'
      subst ev
      obtain ⟨h2, g2, d2, t2, os'⟩ := s'
      exact ⟨rv, mk_end (raises_own T.exC T.tyC) I1 hsz kk un2 hok2 os2 bare2 ea ed hd1 q2⟩
    | next => exact False.elim hq'
    | brk => exact False.elim hq'
    | cont => exact False.elim hq'
def cRaise (t : St → Hp → XK → Prop) (W : WX) : TS := fun _ σ H => t σ H fun cls d H' => W cls d σ H'
theorem ps_cRaise (hc : X.calm = true) (tk : Takes X W) (hr : Room j X.A) (hf : Gf (.of X) x) (hg : Gl X x) (ha : PA X (e :: es) t) {rpos : Pos} (hdb : (x == ("__debug__" : Str)) = false := by decide) (he : starEach (e :: es) X.env = (false, eval e X.env) :: starEach es X.env := by rfl)
    (hpl : (backTo pos (starEach es X.env)).any (·.1) = false := by rfl) : PS X (.Raise (some (.Call (.Name x p) (e :: es) [] pos)) none rpos) (cRaise (cRais (.of X) j (gad X.K x) t) W) :=
  ps_raise hc tk (pmk_c hr hf hg ha hdb he hpl)
end
/-- the promise: the exception, its class, its dict -/
abbrev SpX := Addr → Value → Option Addr → List V → Hp → VK → Prop
def FnP (g : Wd) (k : Nat) (f : Addr) (sp : SpX) : Prop :=
  ∀ (A : Around) (outer : List Env) (s : Shared) (H : Hp) (us : List Value) (vs : List V) (Q : VK) (p : Addr × Obj) (cls : Value) (d : Option Addr), RoomH k A → PinOk outer H s p → Zc cls d p.2 → (∃ fv, p.2.data = .fields fv) → Env0 g.P g.w g.K g.mg g.base A outer s H → Vals vs us →
    sp p.1 cls d vs H Q → codeAny (model g.P g.w) A (.call (.ref f) ⟨us, []⟩) (CR (L2.CX g.P g.w) outer g.P g.w H s Q E0) s
theorem fn_ofP {g : Wd} {k : Nat} {f : Addr} {name qual : Str} {params : Arguments} {body : List Stmt} {scope : Scope} {dV kV doc pm cdv ct oc : Value} {an od : Option Addr}
    {osl : Array (Option Value)} {N ps : List Str} {sp : SpX} (lk : g.K.lookup f = some ⟨oc, od, .func (PySem.W.fnOf name qual params body scope dV kV doc pm an cdv ct), osl⟩) (hcd : PySem.W.codeIn g.K cdv qual = true) (S : FnScope N ps scope)
    (hb : Binds g.K (PySem.W.fnOf name qual params body scope dV kV doc pm an cdv ct) ps []) (len : ∀ a c d vs H Q, sp a c d vs H Q → vs.length = ps.length)
    (hbody : ∀ (A : Around) (outer : List Env) (s : Shared) (H : Hp) (vs : List V) (Q : VK) (p : Addr × Obj) (cls : Value) (d : Option Addr), RoomH k (A.deeper (envOfC qual scope s.heap.objs.size f cdv)) → Zc cls d p.2 → (∃ fv, p.2.data = .fields fv) → sp p.1 cls d vs H Q →
      ∃ t, PSs (cxH (L2.CX g.P g.w) g.P g.w g.K g.mg g.base N qual scope f cdv A outer s H E0 p) body t ∧ t { nx := fun _ H' => Q .non H', rt := Q } (L2.start N vs) H) :
    FnP g (k + 1) f sp := by
  intro A outer s H us vs Q p cls d hr hpin hz hfv e0 r hsp
  have hl := len _ _ _ _ _ _ hsp
  have KX : g.K.In s.heap := e0.mod.kin.keeps fun b o e => (e0.bs b o e).1
  have lim : s.heap.NoLimit := e0.mod.nolimit.keeps fun b o e => (e0.bs b o e).1
  have hkind : ∀ y ∈ ps.zip us, scope.names.lookup y.1 = some .local ∨ (scope.names.lookup y.1 = some .cell ∧ ((cellsFrom (s.heap.objs.size + 1) scope.names []).lookup y.1).isSome = true) := fun ⟨n, v⟩ hy => by
    rcases S.par n (List.of_mem_zip hy).1 with q | q
    · exact .inl q
    · exact .inr ⟨q, PySem.W.cellsFrom_some _ _ _ (.inl q)⟩
  have hlu : us.length = ps.length := by rw [← r.length]; exact hl
  have b := hb s us KX (by rw [List.append_nil]; exact hlu)
  rw [List.append_nil] at b
  refine codeAny_call_function hr.depth (KX _ _ lk) rfl S.co S.gen rfl (PySem.W.codeRec_of KX hcd) (b _ _ _ _ ?_)
  refine wpAny_newFunctionEnv_cells S.kind hkind fun env he s1 x => ?_
  subst he
  refine ⟨lim.keeps x.toInCall.keep, codeAny_func ?_⟩
  obtain ⟨t, ht, hq⟩ := hbody A outer s H vs Q p cls d (hr.deeper _) hz hfv hsp
  have I : Inv (cxH (L2.CX g.P g.w) g.P g.w g.K g.mg g.base N qual scope f cdv A outer s H E0 p) [] (L2.start N vs) H s1 := inv_startH S hpin e0 hl r x
  refine wpAny_mono (ht.run [] s1 (L2.start N vs) H _ I hq) (fun fl s' hs => ?_) fun e s' hs => hs
  have fin : ∀ {σ' : St} {H' : Hp} {v : V} {u : Value}, Inv (cxH (L2.CX g.P g.w) g.P g.w g.K g.mg g.base N qual scope f cdv A outer s H E0 p) [] σ' H' s' → RelV v u → Q v H' → CE outer g.P g.w H s Q u s' :=
    fun {σ' H' v u} J rv q => ⟨v, H', J.os, J.bare, J.base, J.hok, rv, q⟩
  cases fl with
  | ret u =>
    obtain ⟨v, σ', H', J, rv, q⟩ := hs
    exact fin J rv q
  | next =>
    obtain ⟨σ', H', J, q⟩ := hs
    exact fin (v := V.non) (u := Value.none) J rfl q
  | brk =>
    obtain ⟨_, _, _, q⟩ := hs
    exact False.elim q
  | cont =>
    obtain ⟨_, _, _, q⟩ := hs
    exact False.elim q
section
variable {X : Cx} {j : Nat} {x : Str} {pp pos : Pos} {e : Expr} {es : List Expr} {t : TA} {p : Addr × Obj} {cls : Value} {d : Option Addr}
inductive CallX (g : Wd) (j : Nat) (a : Addr) (cls : Value) (d : Option Addr) (f : Addr) (vs : List V) (H : Hp) (Q : VK) : Prop where
  | by {k : Nat} {sp : SpX} (c : FnP g k f sp) (hk : k ≤ j) (h : sp a cls d vs H Q)
def cCallX (g : Wd) (j : Nat) (a : Addr) (cls : Value) (d : Option Addr) (f : Addr) (t : TA) : TE := fun σ H Q => t σ H fun vs H1 => CallX g j a cls d f vs H1 Q
theorem pe_cCallX (hr : RoomH j X.A) (hp : p ∈ X.pn) (hz : Zc cls d p.2) (hfv : ∃ fv, p.2.data = .fields fv) (hf : Gf (.of X) x) (hg : Gl X x) (ha : PA X (e :: es) t) (hdb : (x == ("__debug__" : Str)) = false := by decide) (he : starEach (e :: es) X.env = (false, eval e X.env) :: starEach es X.env := by rfl)
    (hpl : (backTo pos (starEach es X.env)).any (·.1) = false := by rfl) : PE X (.Call (.Name x pp) (e :: es) [] pos) (cCallX (.of X) j p.1 cls d (gad X.K x) t) := by
  refine ⟨fun pins s σ H Q I h => ?_⟩
  refine wpAny_Call_Name_kw (ld_glob I hg hf.mg ?_ hdb)
  refine PySem.W.callWith_K (h₀ := X.base) I.ok.mod.kin hf.kp (thn (ha.run pos pins s σ H _ I h) fun us s1 ⟨vs, H1, I1, r, q⟩ => ⟨I1.kIn, ?_⟩) he hpl
  obtain ⟨c, hk, h⟩ := q
  have P1 := I1.pin p (List.mem_append_left _ hp)
  have hpin : PinOk X.stack H1 s1 p := ⟨P1.1, P1.2.1, fun hm => (List.mem_cons.mp (I1.stkSub p.1 hm)).elim P1.2.2.1 P1.2.2.2.1, P1.2.2.2.2⟩
  refine wpAny_call (codeAny_mono (c X.A X.stack s1 H1 us vs Q p cls d (hr.mono hk) hpin hz hfv I1.env0 r h) fun r s' hq => ?_)
  cases r with
  | error e => exact passL (X := X) pins σ H1 s1 e s' I1 hq
  | ok fl =>
    cases fl with
    | ret u => exact I1.after hq
    | next => exact False.elim hq
    | brk => exact False.elim hq
    | cont => exact False.elim hq
/-- the field n of the exception p -/
inductive XfP (K : PySem.W.Frag) (a : Addr) (cls : Value) (d : Option Addr) (n : Str) (x : V) (H : Hp) (Q : VK) : Prop where
  | by {C dd : Addr} {fs : List (Str × V)} {v : V} (ex : x = .ref a) (ec : cls = .ref C) (T : XfC K C) (hno : PySem.W.findIn K (.ref C) n = some none) (ed : d = some dd) (eh : H dd = some (.xd fs)) (l : fs.lookup n = some v) (k : Q v H)
def cXf (K : PySem.W.Frag) (a : Addr) (cls : Value) (d : Option Addr) (te : TE) (n : Str) : TE := fun σ H Q => te σ H fun x H1 => XfP K a cls d n x H1 Q
theorem pe_cXf {te : TE} {n : Str} (hp : p ∈ X.pn) (hz : Zc cls d p.2) (hfv : ∃ fv, p.2.data = .fields fv) (he : PE X e te) (hb : attributeBase e n X.env (eval e X.env) = eval e X.env := by rfl) : PE X (.Attribute e n pos) (cXf X.K p.1 cls d te n) := by
  refine ⟨fun pins s σ H Q I h => ?_⟩
  refine attr_of hb (thn (he.run pins s σ H _ I h) fun u s1 hh => ?_)
  obtain ⟨x, H1, I1, rx, ex, ec, T, hno, ed, ea, l, q⟩ := hh
  rename_i C dd fs v
  subst ex
  obtain rfl : u = Value.ref p.1 := rx
  subst ec
  subst ed
  obtain ⟨ha, _⟩ := I1.pin p (List.mem_append_left _ hp)
  obtain ⟨vs, hd⟩ := hfv
  have hx : ObjOk X.prog X.w H1 s1.heap dd (.xd fs) := I1.hok dd _ ea
  obtain ⟨mA, hns, hr⟩ := hx
  obtain ⟨od, ho, hl⟩ := lookIn_ns hns
  obtain ⟨u, hu, ru⟩ := RelO.some_of (v := v) (o := mA n) (by rw [← l]; exact hr n)
  have J : PySem.W.InstAt s1.heap p.1 p.2 C (some od) := ⟨ha, hz.1, by unfold PySem.W.notCls; rw [hd] <;> rfl, by rw [hz.2]; exact ho⟩
  exact HandSPX.exc_get I1.kIn J T.ga T.gg T.exC (PySem.W.findObj_own T.hdC hno rfl (by rw [hl, hu])) (handed_of ru) ⟨v, H1, I1.tok _, ru, q⟩
end
section
variable {prog : Program} {w : World} {A : Around} {E : Value → Shared → Prop} {s : Shared} {K : PySem.W.Frag} {x D : Addr} {ox od : Obj}
open PySem.W in
theorem kin_classD {Q : Option Value → Shared → Prop} (C : ExcC K D) (X : K.In s.heap) (I : InstAt s.heap x ox D (some od)) (h : Q (some (.ref D)) { s with toks := s.toks + 1 }) : wpAny (model prog w) A (getAttr? (.ref x) "__class__") Q E s := by
  obtain ⟨hga, hgt, hsub, hdct, ha, hn, htk, hm⟩ := C
  have hf : findObj K D (some od) "__class__" = some (.bind (.builtin "getset_descriptor.__get__") (.builtin "object.__class__")) := findObj_data (by obtain ⟨cd, hc, _⟩ := any_some hdct; rw [hc]; rfl) ha hn htk
  obtain ⟨hp, g, d, t, os⟩ := s
  have L0 := I.type (M := model prog w)
  have L1 := looks_findIn (M := model prog w) X hga
  have L2 := looks_findIn (M := model prog w) X hgt
  have L3 := looks_find (M := model prog w) X I hf
  have sub : Looks (model prog w) hp (isInstance (.ref x) (.type "BaseException")) true := L0.andThen (looks_subIn X hsub)
  have hx0 : (false && onTheHeap (Value.builtin "BaseException.__getattribute__")) = false := rfl
  have hx2 : (Value.builtin "BaseException.__getattribute__" == Value.builtin "object.__getattribute__") = false := by decide +kernel
  have hx1 : (onTheHeap (Value.ref D) && Value.builtin "BaseException.__getattribute__" == Value.builtin "object.__getattribute__") = false := by rw [hx2]; rfl
  unfold getAttr? getAttrBy? getAttrBy
  refine wpAny_bind (wpAny_mkText (wpAny_bind (wpAny_attempt (wpAny_holding (wpAny_bind (L0.at (wpAny_bind (L1.at ?_))))))))
  show wpAny _ _ (if (onTheHeap (Value.ref D) && Value.builtin "BaseException.__getattribute__" == Value.builtin "object.__getattribute__") = true then _ else _) _ _ _
  rw [hx1, if_neg Bool.false_ne_true]
  unfold getAttrByItsOwn hookBefore
  refine wpAny_bind ?_
  rw [if_pos (show onTheHeap (Value.ref D) = true from rfl)]
  refine L2.at ?_
  refine wpAny_bind (wpAny_attempt (wpAny_holding ?_))
  unfold callGetattribute
  rw [hx0, if_neg Bool.false_ne_true]
  unfold boundAndCalled
  rw [PySem.F.excAttr_ValueError.ga.bind (.ref x)]
  refine wpAny_bind (wpAny_pure ?_)
  show wpAny _ _ (call (.builtin "BaseException.__getattribute__") [.ref x, .str "__class__" t]) _ _ _
  refine wpAny_call (codeAny_call_builtin PySem.F.excAttr_ValueError.ga.plain PySem.F.entry_bexc_ga ?_)
  refine @check_slot (model prog w) _ _ ⟨hp, g, d, t + 1, os⟩ "BaseException.__getattribute__" "BaseException" "__getattribute__" (.ref x) [.str "__class__" t] [] _ (by decide +kernel) (by decide +kernel) sub (PySem.F.args_bexc_ga (.ref x) (.str "__class__" t)) ?_
  unfold Builtin.«object.__getattribute__»
  refine wpAny_bind (wpAny_of_eq (a := ((Value.ref x : Value), [Value.str "__class__" t])) (by first | rfl | (simp only [slotArgs]; rfl)) ?_)
  refine wpAny_bind (wpAny_pure (wpAny_bind (L0.at (wpAny_bind (L3.at ?_)))))
  show wpAny _ _ (holding [Value.builtin "object.__class__"] (call (.builtin "getset_descriptor.__get__") [.builtin "object.__class__", .ref x, .ref D]) >>= ret) _ _ _
  refine wpAny_bind (wpAny_holding (wpAny_call (class_get (s := ⟨hp, g, d, t + 1, os⟩) (ox := ox) (od := some od) X I hm ?_)))
  refine wpAny_pure ?_
  show wpAny _ _ (handedOut (.ref D)) _ _ _
  rw [handedOut_of (v := .ref D) rfl]
  first
    | exact wpAny_pure (wpAny_pure h)
    | exact wpAny_pure h
    | exact wpAny_pure (wpAny_bind (wpAny_pure (wpAny_pure h)))
open PySem.W in
theorem kitx_excD (C : ExcC K D) : KitX K (.ref x) (.ref D) (fun h => ∃ ox od, InstAt h x ox D (some od)) where
  ty := fun _ _ _ ⟨_, _, I⟩ => I.type
  it := fun _ _ X _ => by
    obtain ⟨cdD, hcD, _⟩ := any_some C.hd
    unfold clsIn at hcD
    split at hcD
    · rename_i c' d' cd' sl' ho
      intro A' Q' E' s' k q
      unfold isType loadHead
      exact wpAny_bind (wpAny_loadPart (k _ _ (X _ _ ho)) (wpAny_pure q))
    · cases hcD
  ne := fun h tp dd its n sl X htp => by
    obtain ⟨cdD, hcD, _⟩ := any_some C.hd
    refine Bool.eq_false_iff.mpr fun q => ?_
    have e : D = tp := Value.ref.inj (beq_iff_eq.mp q)
    subst e
    unfold clsIn at hcD
    split at hcD
    · rename_i c' d' cd' sl' ho
      have z := (X _ _ ho).symm.trans htp
      cases z
    · cases hcD
  ca := fun X ⟨_, _, I⟩ k => kin_classD C X I k
end
section
variable {X : Cx} {p : Addr × Obj} {cls : Value} {d : Option Addr}
inductive IsxP (K : PySem.W.Frag) (a : Addr) (cls : Value) (d : Option Addr) (x c : V) (H : Hp) (Q : VK) : Prop where
  | ty {D dd : Addr} {fs : List (Str × V)} {n : String} {b : Bool} (ex : x = .ref a) (ec : cls = .ref D) (C : ExcC K D) (ed : d = some dd) (eh : H dd = some (.xd fs)) (hc : c = .ty n) (hb : PySem.W.kitOne K (.ref D) (.type n) = some b) (k : Q (.bl b) H)
  | own {D E dd : Addr} {fs : List (Str × V)} {b : Bool} (ex : x = .ref a) (ec : cls = .ref D) (C : ExcC K D) (ed : d = some dd) (eh : H dd = some (.xd fs)) (hc : c = .ref E) (hb : PySem.W.kitOne K (.ref D) (.ref E) = some b) (k : Q (.bl b) H)
def cIsx (K : PySem.W.Frag) (a : Addr) (cls : Value) (d : Option Addr) : List V → Hp → VK → Prop := fun xs H Q => match xs with
  | [x, c] => IsxP K a cls d x c H Q
  | _ => False
theorem call_cIsx (hp : p ∈ X.pn) (hz : Zc cls d p.2) (hfv : ∃ fv, p.2.data = .fields fv) : CallR X (.builtin "isinstance") (cIsx X.K p.1 cls d) := by
  intro pins s σ H xs us Q I r h
  match xs, r, h with
  | [x, c], r, h =>
    have key : ∀ {D dd : Addr} {fs : List (Str × V)} {cv : Value} {b : Bool}, us = [.ref p.1, cv] → cls = .ref D → ExcC X.K D → d = some dd → H dd = some (.xd fs) → PySem.W.kitOne X.K (.ref D) cv = some b → Q (.bl b) H →
        wpAny (model X.prog X.w) X.A (call (.builtin "isinstance") us) (EP X pins σ Q) X.xe s := by
      intro D dd fs cv b eu ec C ed eh hb k
      subst eu ec ed
      obtain ⟨ha, _⟩ := I.pin p (List.mem_append_left _ hp)
      obtain ⟨vs, hd⟩ := hfv
      have hx : ObjOk X.prog X.w H s.heap dd (.xd fs) := I.hok dd _ eh
      obtain ⟨mA, hns, hr⟩ := hx
      obtain ⟨od, ho, hl⟩ := lookIn_ns hns
      have J : PySem.W.InstAt s.heap p.1 p.2 D (some od) := ⟨ha, hz.1, by unfold PySem.W.notCls; rw [hd] <;> rfl, by rw [hz.2]; exact ho⟩
      exact PySem.W.kia_one (kitx_excD C) I.kIn ⟨_, _, J⟩ hb (fun z => nomatch z) fun tk => ⟨.bl b, H, I.kept (t' := tk) fun _ _ z => z, rfl, k⟩
    have h : IsxP X.K p.1 cls d x c H Q := h
    cases r with
    | cons rx rr =>
      cases rr with
      | cons rt rr =>
        cases rr
        cases h with
        | ty ex ec C ed eh hc hb k =>
          subst ex hc
          cases rx
          cases rt
          exact key rfl ec C ed eh hb k
        | own ex ec C ed eh hc hb k =>
          subst ex hc
          cases rx
          cases rt
          exact key rfl ec C ed eh hb k
end
end Cy
namespace Cy
open PySem PySem.Spec PyProof.Rows L2
/-- a text's signs, each in a new pair with its number from k0 on -/
def Ies (k0 : Int) (x : Str) : It :=
  ⟨fun i _ => i < x.cps.size, fun i H v H' => ∃ T c, v = .ref T ∧ H T = none ∧ H' = upd H T (.tup [.int (k0 + (i : Nat)), .str ⟨#[c]⟩]) ∧ x.cps[i]? = some c, fun i _ => i = x.cps.size⟩
theorem turn_es {P : Program} {w : World} {K : PySem.W.Frag} {elts : List Expr} {kk : Nat} {tpos : Pos} (k0 : Int) (x : Str) (t : Tok) (e it : Addr) :
    Turn P w K (.Tuple elts kk tpos) (Ies k0 x) [e, it] e (fun i h => (∃ old, IsEnum h e it (k0 + ((i : Nat) : Int)) old) ∧ h.IsStrIter it (strIterType x) x t i ∧ e ≠ it) where
  mem := by simp
  obj := fun i h st b hb => by
    obtain ⟨⟨old, he⟩, ⟨o, ho, hc, hd⟩, _⟩ := st
    have e' : b = e ∨ b = it := by simpa using hb
    rcases e' with z | z
    · rw [z]; exact ⟨_, he, fun v q => nomatch q⟩
    · rw [z]; exact ⟨o, ho, fun v q => by rw [hd] at q; cases q⟩
  keep := fun i h h' st k => let ⟨⟨old, he⟩, ⟨o, ho, r⟩, hne⟩ := st; ⟨⟨old, k e (by simp) _ he⟩, ⟨o, k it (by simp) o ho, r⟩, hne⟩
  item := by
    intro X hP hw hK hc i pins s σ H E I hf st hg
    subst hP hw hK
    obtain ⟨⟨old, he⟩, hit, hne⟩ := st
    have hel : e < s.heap.objs.size := Heap.lt_size he
    have hil : it < s.heap.objs.size := by obtain ⟨_, q, _⟩ := hit; exact Heap.lt_size q
    have DD := Draws.text (prog := X.prog) (w := X.w) (A := X.A.in1) (I.ok.hd hc) it x t
    refine wpAny_pyNext_enum_itemC DD he hit hg hne (by simpa using hne) fun v h' tk hP ho hit' hT hsz hk => ?_
    obtain ⟨c, u, hcx, rfl⟩ := hP
    refine ⟨_, rfl, wpAny_letOwnedTupleGo_enum (s := { s with heap := h', toks := tk + 1 }) ho fun h'' he' sb => ?_⟩
    have hT2 : h''.get? s.heap.objs.size = some { cls := .type "tuple", data := .seq #[.int (k0 + (i : Nat)) tk, .str ⟨#[c]⟩ u] } := (sb.2 _ (Nat.ne_of_gt hel)).trans hT
    have new : ObjOk X.prog X.w (upd H s.heap.objs.size (.tup [.int (k0 + (i : Nat)), .str ⟨#[c]⟩])) h'' s.heap.objs.size (.tup [.int (k0 + (i : Nat)), .str ⟨#[c]⟩]) :=
      ⟨by show 2 ≤ sizeLine; decide, [.int (k0 + (i : Nat)) tk, .str ⟨#[c]⟩ u], .cons ⟨_, rfl⟩ (.cons ⟨_, rfl⟩ .nil), ⟨_, hT2, rfl, _, rfl⟩⟩
    have I1 : Inv X pins σ (upd H s.heap.objs.size (.tup [.int (k0 + (i : Nat)), .str ⟨#[c]⟩])) { s with heap := h'', toks := tk + 1 } :=
      I.turnedNew (ch := [e, it]) (fun b ob hb q => (sb.2 b (fun z => hb (by simp [z]))).trans (hk b ob (fun z => hb (by simp [z])) (fun z => hb (by simp [z])) q)) hf (Nat.le_refl _) new
    refine ⟨.ref s.heap.objs.size, _, I1, rfl, ⟨_, c, rfl, I.hok.fresh (Nat.le_refl _), rfl, hcx⟩, ⟨⟨.str ⟨#[c]⟩ u, ?_⟩, ?_, hne⟩, fun b hb => ?_⟩
    · have e1 : k0 + ((i + 1 : Nat) : Int) = k0 + (i : Int) + 1 := by omega
      rw [e1]; exact he'
    · obtain ⟨o, ho', r⟩ := hit'
      exact ⟨o, (sb.2 it (Ne.symm hne)).trans ho', r⟩
    · have hb' : b < s.heap.objs.size := by
        have e' : b = e ∨ b = it := by simpa using hb
        rcases e' with z | z
        · rw [z]; exact hel
        · rw [z]; exact hil
      rw [upd_ne (Nat.ne_of_lt hb')]
      exact (hf b hb).1
  done := by
    intro X hP hw hK hc i pins s σ H E I hf st hg
    subst hP hw hK
    obtain ⟨⟨old, he⟩, hit, hne⟩ := st
    obtain ⟨f0, f1, f2, f3, f4, f5⟩ := hf it (by simp)
    have hg' : i = x.cps.size := hg
    subst hg'
    have DD := Draws.text (prog := X.prog) (w := X.w) (A := X.A.in1) (I.ok.hd hc) it x t
    exact wpAny_pyNext_enum_endD DD he hit fun h' eb => ⟨rfl, I.turned (t' := s.toks) (fun b o hb q => eb b o hb q) f0 f1 f3 f4 f5⟩
  self := fun A i s Q E st h => let ⟨⟨_, he⟩, _⟩ := st; wpAny_pyIter_enum he h
def iEs (ta : TA) : TI := fun σ H R => ta σ H fun vs H1 => match vs with
  | [.str x] => R (Ies 0 x) H1
  | _ => False
theorem pi_es {X : Cx} {e : Expr} {ta : TA} {p pos tpos : Pos} {elts : List Expr} {kk : Nat} (hg : Gl X "enumerate") (hm : X.mg "enumerate" = none) (ha : PA X [e] ta) (hs : starEach [e] X.env = [(false, eval e X.env)] := by rfl) :
    PI X (.Tuple elts kk tpos) (.Call (.Name "enumerate" p) [e] [] pos) (iEs ta) := by
  refine ⟨fun pins s σ H R I h => ?_⟩
  refine Call_ (ld_blt I hg hm boot_enumerate (PyProof.Rows.callWith_type1 (thn (ha.run pos pins s σ H _ I h) fun us s1 ⟨vs, H1, I1, r1, q1⟩ => ?_) hs rfl))
  match vs, r1, q1 with
  | [.str x], r1, q =>
    cases r1 with
    | cons r rr =>
      cases rr
      obtain ⟨t, rfl⟩ := r
      refine call_enumerate_str fun h' he hit hsz hk => wpAny_pyIter_enum he ?_
      have I2 : Inv X pins σ H1 { s1 with heap := h' } := I1.kept (t' := s1.toks) hk
      refine ⟨s1.heap.objs.size + 1, [s1.heap.objs.size + 1, s1.heap.objs.size], _, _, H1, rfl, I2, turn_es 0 x t (s1.heap.objs.size + 1) s1.heap.objs.size, ⟨⟨.none, by simpa using he⟩, hit, Nat.succ_ne_self _⟩, fun b hb => ?_, q⟩
      have e' : b = s1.heap.objs.size + 1 ∨ b = s1.heap.objs.size := by simpa using hb
      have hle : s1.heap.objs.size ≤ b := by
        rcases e' with z | z
        · rw [z]; exact Nat.le_add_right _ _
        · rw [z]; exact Nat.le_refl _
      exact I1.fpOk hle (I1.hok.fresh hle)
def Iek (K : PySem.W.Frag) (k0 : Int) (a : Addr) : It :=
  ⟨fun i H => ∃ (xs : List V) (x : V), SqL K H a xs ∧ xs[i]? = some x, fun i H v H' => ∃ T x, v = .ref T ∧ H T = none ∧ H' = upd H T (.tup [.int (k0 + (i : Nat)), x]) ∧ ∀ xs, SqL K H a xs → xs[i]? = some x, fun i H => ∃ xs : List V, SqL K H a xs ∧ xs.length = i⟩
theorem turn_ek {P : Program} {w : World} {K : PySem.W.Frag} {elts : List Expr} {kk : Nat} {tpos : Pos} (k0 : Int) (a e it : Addr) :
    Turn P w K (.Tuple elts kk tpos) (Iek K k0 a) [e, it] e (fun i h => (∃ old, IsEnum h e it (k0 + ((i : Nat) : Int)) old) ∧ h.IsListIter it a i ∧ e ≠ it ∧ a ≠ it ∧ a ≠ e) where
  mem := by simp
  obj := fun i h st b hb => by
    obtain ⟨⟨old, he⟩, ⟨o, ho, hc, hd⟩, _⟩ := st
    have e' : b = e ∨ b = it := by simpa using hb
    rcases e' with z | z
    · rw [z]; exact ⟨_, he, fun v q => nomatch q⟩
    · rw [z]; exact ⟨o, ho, fun v q => by rw [hd] at q; cases q⟩
  keep := fun i h h' st k => let ⟨⟨old, he⟩, hi, hne⟩ := st; ⟨⟨old, k e (by simp) _ he⟩, hi.at fun o q => k it (by simp) o q, hne⟩
  item := by
    intro X hP hw hK hc i pins s σ H E I hf st hg
    subst hP hw hK
    obtain ⟨⟨old, he⟩, hit, hne, hai, hae⟩ := st
    obtain ⟨xs, x, hq, hx⟩ := hg
    obtain ⟨its, rv, p, hz⟩ := I.list hq
    obtain ⟨u, hu, ru⟩ := rv.get hx
    have hel : e < s.heap.objs.size := Heap.lt_size he
    have hil : it < s.heap.objs.size := by obtain ⟨_, q, _⟩ := hit; exact Heap.lt_size q
    have hlt : i < its.toArray.size := by
      have z := (List.getElem?_eq_some_iff.mp hu).1
      simpa using z
    have DD := Draws.list (prog := X.prog) (w := X.w) (A := X.A.in1) (I.ok.hd hc) it a hai its.toArray
    refine wpAny_pyNext_enum_itemC DD he ⟨hit, p.isList⟩ hlt hne (by simpa using ⟨hne, Ne.symm hae⟩) fun v h' tk hP ho hit' hT hsz hk => ?_
    have ev : u = v := by
      have z : its.toArray[i]? = some v := hP
      rw [List.getElem?_toArray, hu] at z
      exact Option.some.inj z
    subst ev
    refine ⟨_, rfl, wpAny_letOwnedTupleGo_enum (s := { s with heap := h', toks := tk + 1 }) ho fun h'' he' sb => ?_⟩
    have hT2 : h''.get? s.heap.objs.size = some { cls := .type "tuple", data := .seq #[.int (k0 + (i : Nat)) tk, u] } := (sb.2 _ (Nat.ne_of_gt hel)).trans hT
    have new : ObjOk X.prog X.w (upd H s.heap.objs.size (.tup [.int (k0 + (i : Nat)), x])) h'' s.heap.objs.size (.tup [.int (k0 + (i : Nat)), x]) :=
      ⟨by show 2 ≤ sizeLine; decide, [.int (k0 + (i : Nat)) tk, u], .cons ⟨_, rfl⟩ (.cons ru .nil), ⟨_, hT2, rfl, _, rfl⟩⟩
    have I1 : Inv X pins σ (upd H s.heap.objs.size (.tup [.int (k0 + (i : Nat)), x])) { s with heap := h'', toks := tk + 1 } :=
      I.turnedNew (ch := [e, it]) (fun b ob hb q => (sb.2 b (fun z => hb (by simp [z]))).trans (hk b ob (fun z => hb (by simp [z])) (fun z => hb (by simp [z])) q)) hf (Nat.le_refl _) new
    refine ⟨.ref s.heap.objs.size, _, I1, rfl, ⟨_, x, rfl, I.hok.fresh (Nat.le_refl _), rfl, fun ys hy => by rw [I.list_inj hy hq]; exact hx⟩, ⟨⟨u, ?_⟩, hit'.1.at fun o q => (sb.2 it (Ne.symm hne)).trans q, hne, hai, hae⟩, fun b hb => ?_⟩
    · have e1 : k0 + ((i + 1 : Nat) : Int) = k0 + (i : Int) + 1 := by omega
      rw [e1]; exact he'
    · have hb' : b < s.heap.objs.size := by
        have e' : b = e ∨ b = it := by simpa using hb
        rcases e' with z | z
        · rw [z]; exact hel
        · rw [z]; exact hil
      rw [upd_ne (Nat.ne_of_lt hb')]
      exact (hf b hb).1
  done := by
    intro X hP hw hK hc i pins s σ H E I hf st hg
    subst hP hw hK
    obtain ⟨⟨old, he⟩, hit, hne, hai, hae⟩ := st
    obtain ⟨xs, hq, hx⟩ := hg
    obtain ⟨its, rv, p, hz⟩ := I.list hq
    obtain ⟨f0, f1, f2, f3, f4, f5⟩ := hf it (by simp)
    have hl := rv.length
    have hi : i = its.toArray.size := by simp; omega
    subst hi
    have DD := Draws.list (prog := X.prog) (w := X.w) (A := X.A.in1) (I.ok.hd hc) it a hai its.toArray
    exact wpAny_pyNext_enum_endD DD he ⟨hit, p.isList⟩ fun h' eb => ⟨rfl, I.turned (t' := s.toks) (fun b o hb q => eb b o hb q) f0 f1 f3 f4 f5⟩
  self := fun A i s Q E st h => let ⟨⟨_, he⟩, _⟩ := st; wpAny_pyIter_enum he h
end Cy
namespace Cy
open PySem PySem.Spec PyProof.Rows L2
theorem callWith_typeKw {M : Model} {A : Around} {E : Value → Shared → Prop} {s : Shared} {pos : Pos} {id : String} {args : List (Bool × Sem Value)} {keywords : List (Option Str × Sem Value)} {Q : Value → Shared → Prop}
    (hplain : args.any (·.1) = false) (hkw : keywords.any (·.1.isNone) = false)
    (h : wpAny M A (evalArgs (.type id) true args keywords) (fun a s₁ => wpAny M A (call (.type id) a.pos a.kw) Q E s₁) E s) :
    wpAny M A (callWith pos (.type id) [] args keywords) Q E s := by
  unfold callWith
  refine wpAny_bind (wpAny_holding (wpAny_mono h (fun a s₁ h₁ => wpAny_bind (wpAny_standAt ?_)) fun _ _ x => x))
  simp only [hplain, hkw, Bool.or_false]
  refine wpAny_bind (wpAny_pure ?_)
  exact wpAny_bind (wpAny_mono h₁ (fun r s₂ hr => wpAny_bind (wpAny_holding (wpAny_point (wpAny_pure hr)))) fun _ _ x => x)
/-- the keywords' values -/
def tPK := @L2.tNil
def iEk (K : PySem.W.Frag) (ta : TA) (k0 : Int) : TI := fun σ H R => ta σ H fun vs H1 => match vs with
  | [.ref a] => (∃ xs, SqL K H1 a xs) ∧ R (Iek K k0 a) H1
  | _ => False
theorem pi_ek {X : Cx} {e : Expr} {ta : TA} {p pos tpos kpos p2 : Pos} {elts : List Expr} {kk j : Nat} {k0 : Int} (hg : Gl X "enumerate") (hm : X.mg "enumerate" = none) (ha : PA X [e] ta) (h0 : -(2 ^ 63) ≤ k0) (h1 : k0 < 2 ^ 63) (hs : starEach [e] X.env = [(false, eval e X.env)] := by rfl)
    (hk : backToKw pos (keywordEach [{ arg := some (PySem.Str.ofString "start"), value := .Constant (.int k0) j p2, pos := kpos }] X.env) = [(some (PySem.Str.ofString "start"), do let v ← eval (.Constant (.int k0) j p2) X.env; standAt pos; pure v)] := by rfl) :
    PI X (.Tuple elts kk tpos) (.Call (.Name "enumerate" p) [e] [{ arg := some (PySem.Str.ofString "start"), value := .Constant (.int k0) j p2, pos := kpos }] pos) (iEk X.K ta k0) := by
  refine ⟨fun pins s σ H R I h => ?_⟩
  refine wpAny_Call_Name_kw (ld_blt I hg hm boot_enumerate ?_)
  rw [hk]
  refine callWith_typeKw (by rw [hs] <;> rfl) rfl ?_
  have hA := ha.run pos pins s σ H _ I h
  rw [hs] at hA ⊢
  refine evalArgs_kwB rfl (thn hA fun us s1 ⟨vs, H1, I1, r1, q1⟩ => ?_)
  show wpAny _ _ (evalAll [_]) _ _ _
  match vs, r1, q1 with
  | [.ref a], r1, q =>
    obtain ⟨⟨xs, hq⟩, q⟩ := q
    cases r1 with
    | cons r rr =>
      cases rr
      cases r
      refine evalAll_cons (wpAny_bind (wpAny_Constant_int (wpAny_bind (wpAny_standAt (wpAny_pure ?_)))))
      refine evalAll_nil ?_
      have I2 : Inv X pins σ H1 { s1 with toks := s1.toks + 1 } := I1.tok _
      obtain ⟨its, rv, p', hz⟩ := I2.list hq
      refine enum_begins_start (begins_list a its.toArray) p'.isList h0 h1 fun h' he hit hsz hk => wpAny_pyIter_enum he ?_
      have hal : a < s1.heap.objs.size := by obtain ⟨_, e, _⟩ := p'.isList; exact Heap.lt_size e
      have I3 : Inv X pins σ H1 { s1 with heap := h', toks := s1.toks + 1 } := I1.kept (t' := s1.toks + 1) hk
      refine ⟨s1.heap.objs.size + 1, [s1.heap.objs.size + 1, s1.heap.objs.size], _, _, H1, rfl, I3, turn_ek k0 a (s1.heap.objs.size + 1) s1.heap.objs.size,
        ⟨⟨.none, by simpa using he⟩, ⟨_, hit, rfl, rfl⟩, Nat.succ_ne_self _, Nat.ne_of_lt hal, Nat.ne_of_lt (Nat.lt_succ_of_lt hal)⟩, fun b hb => ?_, q⟩
      have e' : b = s1.heap.objs.size + 1 ∨ b = s1.heap.objs.size := by simpa using hb
      have hle : s1.heap.objs.size ≤ b := by
        rcases e' with z | z
        · rw [z]; exact Nat.le_add_right _ _
        · rw [z]; exact Nat.le_refl _
      exact I1.fpOk hle (I1.hok.fresh hle)
end Cy
namespace Cy
open PySem PySem.Spec PyProof.Rows L2
/-- the promise of a call with keywords named ks -/
abbrev SpK := List V → List V → Hp → VK → XK → Prop
def FnK (g : Wd) (k : Nat) (f : Addr) (ks : List Str) (sp : SpK) : Prop :=
  ∀ (A : Around) (outer : List Env) (s : Shared) (H : Hp) (us ws : List Value) (vs zs : List V) (Q : VK) (E : XK), Room k A → Env0 g.P g.w g.K g.mg g.base A outer s H → Vals vs us → Vals zs ws → sp vs zs H Q E →
    codeAny (model g.P g.w) A (.call (.ref f) ⟨us, ks.zip ws⟩) (CR (L2.CX g.P g.w) outer g.P g.w H s Q E) s
theorem FnK.of {g : Wd} {k n : Nat} {f : Addr} {fd : FuncData} {ps ks : List Str} {sp : Sp} {gg : List Value → List Value → List Value} {gV : List V → List V → List V} (F : FnOk g.P g.w g.K g.mg g.base (L2.CX g.P g.w) k f fd ps sp) (hb : KBn g.K fd ps n ks gg gV) :
    FnK g k f ks (fun vs zs H Q E => vs.length = n ∧ zs.length = ks.length ∧ sp (gV vs zs) H Q E) := by
  intro A outer s H us ws vs zs Q E hr e0 r rz h
  obtain ⟨l1, l2, h⟩ := h
  have KX : g.K.In s.heap := e0.mod.kin.keeps fun b o e => (e0.bs b o e).1
  exact F.run A outer s H ⟨us, ks.zip ws⟩ (gg us ws) (gV vs zs) Q E hr e0 (hb.to s us ws KX (r.length.symm.trans l1) (rz.length.symm.trans l2)) (hb.rel r rz) h
section
variable {X : Cx} {W : WX} {j : Nat} {x : Str} {p pos : Pos} {e : Expr} {es : List Expr} {kws : List Keyword} {t tk : TA}
inductive CallKP (g : Wd) (j : Nat) (f : Addr) (ks : List Str) (vs zs : List V) (H : Hp) (Q : VK) (E : XK) : Prop where
  | by {k : Nat} {sp : SpK} (c : FnK g k f ks sp) (hk : k ≤ j) (h : sp vs zs H Q E)
def cCallK (g : Wd) (j : Nat) (W : WX) (f : Addr) (ks : List Str) (t tk : TA) : TE := fun σ H Q => t σ H fun vs H1 => tk σ H1 fun zs H2 => CallKP g j f ks vs zs H2 Q (fun cls d H' => W cls d σ H')
theorem pe_cCallK {ks : List Str} (tk' : Takes X W) (hr : Room j X.A) (hf : Gf (.of X) x) (hg : Gl X x) (ha : PA X (e :: es) t) (hkw : PK X kws tk) (hall : (backToKw pos (keywordEach kws X.env)).all (·.1.isSome) = true := by rfl)
    (hks : (backToKw pos (keywordEach kws X.env)).filterMap (·.1) = ks := by rfl)
    (hdb : (x == ("__debug__" : Str)) = false := by decide) (he : starEach (e :: es) X.env = (false, eval e X.env) :: starEach es X.env := by rfl)
    (hpl : ((backTo pos (starEach (e :: es) X.env)).any (·.1) || (backToKw pos (keywordEach kws X.env)).any (·.1.isNone)) = false := by rfl) :
    PE X (.Call (.Name x p) (e :: es) kws pos) (cCallK (.of X) j W (gad X.K x) ks t tk) := by
  refine ⟨fun pins s σ H Q I h => ?_⟩
  refine wpAny_Call_Name_kw (ld_glob I hg hf.mg ?_ hdb)
  refine PySem.W.callWith_KW (h₀ := X.base) I.ok.mod.kin hf.kp hall (thn (ha.run pos pins s σ H _ I h) fun us s1 ⟨vs, H1, I1, r, q⟩ => ?_) hpl he
  refine thn (hkw.run pos pins s1 σ H1 _ I1 q) fun ws s2 ⟨zs, H2, I2, rz, q2⟩ => ⟨I2.kIn, ?_⟩
  rw [hks]
  obtain ⟨c, hk, h⟩ := q2
  refine wpAny_call (codeAny_mono (c X.A X.stack s2 H2 us ws vs zs Q _ (hr.mono hk) I2.env0 r rz h) fun r s' hq => ?_)
  cases r with
  | error e => exact passAt tk' σ pins H2 s2 e s' I2 hq
  | ok fl =>
    cases fl with
    | ret u => exact I2.after hq
    | next => exact False.elim hq
    | brk => exact False.elim hq
    | cont => exact False.elim hq
end
section
variable {X : Cx} {x : Str} {pos : Pos}
inductive GvP (g : Wd) (x : Str) (H : Hp) (Q : VK) : Prop where
  | by {v : V} (h : ∃ u, g.mg x = some u ∧ RelV v u) (k : Q v H)
def cGv (g : Wd) (x : Str) : TE := fun _ H Q => GvP g x H Q
theorem pe_cGv (hg : Gl X x) (hd : (x == ("__debug__" : Str)) = false := by decide) : PE X (.Name x pos) (cGv (.of X) x) := by
  refine ⟨fun pins s σ H Q I h => ?_⟩
  obtain ⟨⟨u, hm, r⟩, k⟩ := h
  exact ld_glob I hg hm ⟨_, H, I, r, k⟩ hd
/-- C.f, a class's constant -/
inductive CvP (K : PySem.W.Frag) (f : Str) (x : V) (H : Hp) (Q : VK) : Prop where
  | by {C : Addr} {mc u : Value} {v : V} (ex : x = .ref C) (r : ClX.CRead K C mc) (k : ClX.CVal K C mc f v u) (q : Q v H)
def cCv (K : PySem.W.Frag) (ta : TE) (f : Str) : TE := fun σ H Q => ta σ H fun x H1 => CvP K f x H1 Q
theorem pe_cCv {e : Expr} {ta : TE} {f : Str} (he : PE X e ta) (hb : attributeBase e f X.env (eval e X.env) = eval e X.env := by rfl) : PE X (.Attribute e f pos) (cCv X.K ta f) := by
  refine ⟨fun pins s σ H Q I h => ?_⟩
  refine attr_of hb (thn (he.run pins s σ H _ I h) fun u s1 ⟨x, H1, I1, rx, q⟩ => ?_)
  obtain ⟨ex, r, k, q⟩ := q
  rename_i C mc w v
  subst ex
  obtain rfl : u = Value.ref C := rx
  exact ClX.getcval_ok I1 r k fun s2 I2 => ⟨v, H1, I2, k.rel, q⟩
end
end Cy
namespace Cy
open PySem PySem.Spec PyProof.Rows L2
abbrev Chk := PySem.W.Frag → Bool
/-- the __init__ with super() of the own error x -/
abbrev FnS : Type := Option (Str × Str × Arguments × FuncBody × Scope × Addr × List Str × Value × Addr)
def fnS (K : PySem.W.Frag) (x : Str) : FnS := match K.lookup (mad K (gad K x) "__init__") with
  | some ⟨_, _, .func fd, _⟩ => some (fd.name, fd.qualname, fd.params, fd.body, fd.scope, fd.globals, fd.closure.map (·.1), fd.defaults, fd.builtins)
  | _ => none
structure SupX where
  x : Str
  qual : Str
  params : Arguments
  body : List Stmt
  scope : Scope
def SupX.val (d : SupX) : FnS := some ("__init__", d.qual, d.params, .stmts d.body, d.scope, mainGlobals, ["__class__"], .none, builtinsNs)
/-- the getter of the property f of the class x -/
structure GetX where
  x : Str
  f : Str
  qual : Str
  params : Arguments
  body : List Stmt
  scope : Scope
def pad (K : PySem.W.Frag) (x f : Str) : Addr := mad K (gad K x) f
def pgt (K : PySem.W.Frag) (x f : Str) : Addr := match PySem.W.recIn K (pad K x f) "property" with
  | some (.ref a :: _) => a
  | _ => 0
def fnGx (K : PySem.W.Frag) (d : GetX) : He.FnW := match K.lookup (pgt K d.x d.f) with
  | some ⟨_, _, .func fd, _⟩ => some (fd.name, fd.qualname, fd.params, fd.body, fd.scope, fd.globals, fd.closure, fd.builtins)
  | _ => none
def GetX.val (d : GetX) : He.FnW := some (d.f, d.qual, d.params, .stmts d.body, d.scope, mainGlobals, [], builtinsNs)
abbrev AlC : Type := He.AlD × List Bool × List FnS × List He.FnW
def obsC (fa : List He.Fa) (fn : List He.DefD) (fc : List Chk) (fs : List SupX) (gs : List GetX) (K : PySem.W.Frag) : AlC := (He.obsD fa fn K, fc.map (fun c => c K), fs.map (fun d => fnS K d.x), gs.map (fnGx K))
def valC (fn : List He.DefD) (fc : List Chk) (fs : List SupX) (gs : List GetX) : AlC := (He.valD fn, fc.map (fun _ => true), fs.map SupX.val, gs.map GetX.val)
def SaysC (fa : List He.Fa) (fn : List He.DefD) (fc : List Chk) (fs : List SupX) (gs : List GetX) (K : PySem.W.Frag) : Prop := obsC fa fn fc fs gs K = valC fn fc fs gs
def obsCG (n : Nat) (fa : List He.Fa) (fn : List He.DefD) (fc : List Chk) (fs : List SupX) (gs : List GetX) (g : Addr → Option Obj) : AlC := obsC fa fn fc fs gs (He.frG g (He.asD g n ++ [cStatics]))
def hookC (n : Nat) (fa : List He.Fa) (fn : List He.DefD) (fc : List Chk) (fs : List SupX) (gs : List GetX) : PySem.W.Hook where
  α := AlC
  obs := fun s => obsCG n fa fn fc fs gs s.heap.get?
  val := fun _ => valC fn fc fs gs
  says := fun _ h => ∃ K : PySem.W.Frag, K.In h ∧ SaysC fa fn fc fs gs K
  of := fun _ _ e => ⟨_, He.frG_in, e⟩
  keeps := fun _ _ _ ⟨K, hK, c⟩ k => ⟨K, PySem.W.Frag.In.keeps hK k, c⟩
theorem obsCG_eq {n : Nat} {fa : List He.Fa} {fn : List He.DefD} {fc : List Chk} {fs : List SupX} {gs : List GetX} {g : Addr → Option Obj} {s : Shared} (h : ∀ a, g a = s.heap.get? a) : obsCG n fa fn fc fs gs g = (hookC n fa fn fc fs gs).obs s := by
  have e : g = s.heap.get? := funext h
  rw [e] <;> rfl
def TopOf (fa : List He.Fa) (fn : List He.DefD) (fc : List Chk) (fs : List SupX) (gs : List GetX) (P : Program) (g : Wd) : Prop := g.P = P ∧ ∃ h : Heap, g.K.In h ∧ h.Ns mainGlobals g.mg ∧ SaysC fa fn fc fs gs g.K
/-- what is asked of such an __init__ beside its text -/
def supB (x qual file : Str) : Chk := fun K => (match K.lookup (mad K (gad K x) "__init__") with
    | some ⟨_, _, .func fd, _⟩ => PySem.W.codeIn K fd.code qual && ((match fd.closure with
      | [(_, cc)] => (match K.lookup cc with
        | some ⟨_, _, .cell (some (.ref C)), _⟩ => decide (C = gad K x)
        | _ => false)
      | _ => false) && (match fd.code with
      | .ref cda => (match K.lookup cda with
        | some ⟨_, _, .fields vs, _⟩ => (match (vs[2]? : Option Value) with
          | some (Value.str f _) => decide (f = file)
          | _ => false)
        | _ => false)
      | _ => false))
    | _ => false) && (He.eqO (PySem.W.nsIn K mainGlobals "super") (some none) && (He.eqO (PySem.W.nsIn K cStatics "thirdparty.any") (some none) && (decide (PySem.W.mroIn K (gad K x) (.ref (gad K x)) = some true) &&
      (He.eqO (PySem.W.ks_superIn K (gad K x) (gad K x) "__init__") (some (some (.builtin "ValueError.__init__"))) && decide (PySem.W.subIn K (.ref (gad K x)) (.type "ValueError") = some true)))))
theorem supB_ok {P : Program} {K : PySem.W.Frag} {d : SupX} {file : Str} (e : fnS K d.x = d.val) (h : supB d.x d.qual file K = true) (hP : ((P.main.file : Str) == file) = true) (ht : (P.main.scope.names.lookup ("super" : Str)).isSome = false) :
    ∃ cc cdv, SupD P K (gad K d.x) (mad K (gad K d.x) "__init__") "__init__" d.qual d.params d.body d.scope cc cdv := by
  obtain ⟨h0, h⟩ := He.ba h
  obtain ⟨h1, h⟩ := He.ba h
  obtain ⟨h2, h⟩ := He.ba h
  obtain ⟨h3, h⟩ := He.ba h
  obtain ⟨h4, h5⟩ := He.ba h
  unfold fnS at e
  cases q : K.lookup (mad K (gad K d.x) "__init__") with
  | none => rw [q] at h0; cases h0
  | some o =>
    obtain ⟨oc, od, dt, osl⟩ := o
    rw [q] at h0 e
    cases dt with
    | func fd =>
      obtain ⟨n1, n2, n3, n4, n5, n6, n7, n8, n9, n10, n11, n12, n13, n14, n15⟩ := fd
      have e2 : (some (n1, n2, n3, n4, n5, n6, n7.map (·.1), n8, n15) : FnS) = some (("__init__" : Str), d.qual, d.params, .stmts d.body, d.scope, mainGlobals, [("__class__" : Str)], .none, builtinsNs) := e
      simp only [Option.some.injEq, Prod.mk.injEq] at e2
      obtain ⟨e1, e2, e3, e4, e5, e6, e7, e8, e9⟩ := e2
      obtain ⟨c1, h0⟩ := He.ba h0
      obtain ⟨c2, c3⟩ := He.ba h0
      dsimp only at c1 c2 c3
      match n7, e7, c2 with
      | [(y, cc)], e7, c2 =>
        have ey : y = "__class__" := by simpa using e7
        subst e1 e2 e3 e4 e5 e6 e8 e9 ey
        refine ⟨cc, n13, ⟨oc, od, n9, n10, n11, n12, n14, osl, q⟩, c1, ?_, ?_, He.eqO_ok h1, He.eqO_ok h2, of_decide_eq_true h3, He.eqO_ok h4, of_decide_eq_true h5, ht⟩
        · cases n13 with
          | ref cda =>
            dsimp only at c3
            split at c3
            · rename_i ccl cdd vs ccs el
              split at c3
              · rename_i f tf ev
                have ef : f = file := of_decide_eq_true c3
                exact ⟨cda, ccl, cdd, vs, ccs, f, tf, rfl, el, ev, by rw [ef]; exact hP⟩
              · cases c3
            · cases c3
          | _ => cases c3
        · dsimp only at c2
          split at c2
          · rename_i cl cld C csl el
            have eC : C = gad K d.x := of_decide_eq_true c2
            rw [eC] at el
            exact ⟨_, _, _, el⟩
          · cases c2
    | _ => cases h0
def getB (x f qual : Str) : Chk := fun K => PySem.W.keepIn K (.ref (pgt K x f)) && (match K.lookup (pgt K x f) with
  | some ⟨_, _, .func fd, _⟩ => PySem.W.codeIn K fd.code qual && He.dflB K fd.defaults []
  | _ => false)
theorem getB_ok {K : PySem.W.Frag} {d : GetX} (e : fnGx K d = d.val) (c : getB d.x d.f d.qual K = true) : ∃ fd, FunD K d.f d.qual d.params d.body d.scope [] [] (pgt K d.x d.f) fd := by
  obtain ⟨kp, c2⟩ := He.ba c
  unfold fnGx at e
  cases q : K.lookup (pgt K d.x d.f) with
  | none =>
    rw [q] at c2
    cases c2
  | some o =>
    obtain ⟨oc, od, dt, osl⟩ := o
    rw [q] at c2 e
    cases dt with
    | func fd =>
      obtain ⟨n1, n2, n3, n4, n5, n6, n7, n8, n9, n10, n11, n12, n13, n14, n15⟩ := fd
      have e2 : (some (n1, n2, n3, n4, n5, n6, n7, n15) : He.FnW) = some (d.f, d.qual, d.params, .stmts d.body, d.scope, mainGlobals, [], builtinsNs) := e
      simp only [Option.some.injEq, Prod.mk.injEq] at e2
      obtain ⟨h1, h2, h3, h4, h5, h6, h7, h8⟩ := e2
      subst h1 h2 h3 h4 h5 h6 h7 h8
      obtain ⟨k1, k2⟩ := He.ba c2
      exact ⟨_, ⟨oc, od, n8, n9, n10, n11, n12, n13, n14, osl, rfl, q, k1, He.dflB_ok k2, .inl rfl⟩, kp⟩
    | _ => cases c2
section
variable {fa : List He.Fa} {fn : List He.DefD} {fc : List Chk} {fs : List SupX} {gs : List GetX} {P : Program} {g : Wd}
theorem SaysC.d {K : PySem.W.Frag} (c : SaysC fa fn fc fs gs K) : He.SaysD fa fn K := congrArg (fun z : AlC => z.1) c
theorem TopOf.chk (T : TopOf fa fn fc fs gs P g) (i : Nat) {c : Chk} (h : fc[i]? = some c := by rfl) : c g.K = true := by
  obtain ⟨_, _, _, _, c0⟩ := T
  have e : (fc.map fun c => c g.K) = fc.map fun _ => true := congrArg (fun z : AlC => z.2.1) c0
  have e2 : (fc.map fun c => c g.K)[i]? = (fc.map fun _ => true)[i]? := by rw [e]
  rw [List.getElem?_map, List.getElem?_map, h] at e2
  exact Option.some.inj e2
theorem TopOf.sup (T : TopOf fa fn fc fs gs P g) (i j : Nat) {d : SupX} {file : Str} (h : fs[i]? = some d := by rfl) (h2 : fc[j]? = some (supB d.x d.qual file) := by rfl) (hP : ((P.main.file : Str) == file) = true := by decide +kernel)
    (ht : (P.main.scope.names.lookup ("super" : Str)).isSome = false := by decide +kernel) : ∃ cc cdv, SupD g.P g.K (gad g.K d.x) (mad g.K (gad g.K d.x) "__init__") "__init__" d.qual d.params d.body d.scope cc cdv := by
  have c := T.chk j h2
  obtain ⟨rfl, _, _, _, c0⟩ := T
  have e : (fs.map fun d => fnS g.K d.x) = fs.map SupX.val := congrArg (fun z : AlC => z.2.2.1) c0
  have e2 : (fs.map fun d => fnS g.K d.x)[i]? = (fs.map SupX.val)[i]? := by rw [e]
  rw [List.getElem?_map, List.getElem?_map, h] at e2
  exact supB_ok (Option.some.inj e2) c hP ht
theorem TopOf.get (T : TopOf fa fn fc fs gs P g) (i j : Nat) {d : GetX} (h : gs[i]? = some d := by rfl) (h2 : fc[j]? = some (getB d.x d.f d.qual) := by rfl) : ∃ fd, FunD g.K d.f d.qual d.params d.body d.scope [] [] (pgt g.K d.x d.f) fd := by
  have c := T.chk j h2
  obtain ⟨rfl, _, _, _, c0⟩ := T
  have e : gs.map (fnGx g.K) = gs.map GetX.val := congrArg (fun z : AlC => z.2.2.2) c0
  have e2 : (gs.map (fnGx g.K))[i]? = (gs.map GetX.val)[i]? := by rw [e]
  rw [List.getElem?_map, List.getElem?_map, h] at e2
  exact getB_ok (Option.some.inj e2) c
theorem TopOf.fact (T : TopOf fa fn fc fs gs P g) (i : Nat) {f : He.Fa} (h : fa[i]? = some f := by rfl) : f.ok g.K = true := by
  obtain ⟨_, _, _, _, c⟩ := T
  exact c.d.fact i h
theorem TopOf.gf (T : TopOf fa fn fc fs gs P g) (i j : Nat) {x : Str} (h : fa[i]? = some (.glo x) := by rfl) (h2 : fa[j]? = some (.keep x) := by rfl) : Gf g x :=
  ⟨by obtain ⟨_, _, X, G, c⟩ := T; exact He.glo_ok X G (c.d.fact i h), He.keep_ok (T.fact j h2)⟩
theorem TopOf.gv (T : TopOf fa fn fc fs gs P g) (i : Nat) {x : Str} (h : fa[i]? = some (.glo x) := by rfl) : ∃ u, g.mg x = some u ∧ RelV (.ref (gad g.K x)) u := by
  obtain ⟨_, _, X, G, c⟩ := T
  exact ⟨_, He.glo_ok X G (c.d.fact i h), rfl⟩
theorem TopOf.gi (T : TopOf fa fn fc fs gs P g) (i : Nat) {x : Str} {n : Int} (h : fa[i]? = some (.int x n) := by rfl) : ∃ u, g.mg x = some u ∧ RelV (.int n) u := by
  obtain ⟨_, _, X, G, c⟩ := T
  obtain ⟨t, e⟩ := He.int_ok X G (c.d.fact i h)
  exact ⟨_, e, t, rfl⟩
theorem TopOf.gst (T : TopOf fa fn fc fs gs P g) (i : Nat) {x z : Str} (h : fa[i]? = some (.str x z) := by rfl) : ∃ u, g.mg x = some u ∧ RelV (.str z) u := by
  obtain ⟨_, _, X, G, c⟩ := T
  obtain ⟨t, e⟩ := He.str_ok X G (c.d.fact i h)
  exact ⟨_, e, t, rfl⟩
theorem TopOf.blt (T : TopOf fa fn fc fs gs P g) (i : Nat) {x : Str} (h : fa[i]? = some (.free x) := by rfl) : g.mg x = none := by
  obtain ⟨_, _, X, G, c⟩ := T
  exact He.free_ok X G (c.d.fact i h)
theorem TopOf.cls (T : TopOf fa fn fc fs gs P g) (i : Nat) {x : Str} (h : fa[i]? = some (.cls x) := by rfl) : Cls g.K (gad g.K x) := He.cls_ok (T.fact i h)
theorem TopOf.noat (T : TopOf fa fn fc fs gs P g) (i : Nat) {x f : Str} (h : fa[i]? = some (.noat x f) := by rfl) : NoAttr g.K (gad g.K x) f := He.noat_ok (T.fact i h)
theorem TopOf.meth (T : TopOf fa fn fc fs gs P g) (i : Nat) {x m : Str} (h : fa[i]? = some (.meth x m) := by rfl) : Meth g.K (gad g.K x) m (mad g.K (gad g.K x) m) := He.meth_ok (T.fact i h)
theorem TopOf.mkr (T : TopOf fa fn fc fs gs P g) (i : Nat) {x : Str} (h : fa[i]? = some (.mkr x) := by rfl) : Mk g.K (gad g.K x) (mad g.K (gad g.K x) "__init__") := He.mkr_ok (T.fact i h)
theorem TopOf.exm (T : TopOf fa fn fc fs gs P g) (i : Nat) {x y : Str} {b : Bool} (h : fa[i]? = some (.exm x y b) := by rfl) : PySem.W.exmOne g.K (.ref (gad g.K x)) (.ref (gad g.K y)) = some b := He.exm_ok (T.fact i h)
theorem TopOf.dat (T : TopOf fa fn fc fs gs P g) (i : Nat) {d : He.DefD} (h : fn[i]? = some d := by rfl) : ∃ fd, FunD g.K d.name d.qual d.params d.body d.scope (d.dvs g.K) (d.kws g.K) (He.fAd g.K d.at_) fd := by
  obtain ⟨_, _, X, G, c⟩ := T
  exact c.d.def_ i h
end
def propB (x f : Str) : Chk := fun K => He.eqO (PySem.W.findIn K (.ref (gad K x)) f) (some (some (.ref (pad K x f)))) && (He.eqO (PySem.W.specialIn K (.ref (pad K x f)) "__get__") (some (some (.builtin "property.__get__"))) &&
  (decide (PySem.W.takesIn K (.ref (pad K x f)) = some true) && (match PySem.W.recIn K (pad K x f) "property" with
    | some (.ref a :: _) => true
    | _ => false)))
theorem propB_ok {K : PySem.W.Frag} {x f : Str} (h : propB x f K = true) : PropOf K (gad K x) f (pad K x f) (pgt K x f) := by
  obtain ⟨h1, h⟩ := He.ba h
  obtain ⟨h2, h⟩ := He.ba h
  obtain ⟨h3, h4⟩ := He.ba h
  refine ⟨He.eqO_ok h1, He.eqO_ok h2, of_decide_eq_true h3, ?_⟩
  unfold pgt
  split at h4
  · rename_i a r e
    rw [e]
    exact ⟨r, rfl⟩
  · cases h4
/-- a function at a found place: what it is -/
def fnAtB (ad : PySem.W.Frag → Addr) (name qual : Str) (params : Arguments) (body : List Stmt) (scope : Scope) : PySem.W.Frag → He.FnW := fun K => match K.lookup (ad K) with
  | some ⟨_, _, .func fd, _⟩ => some (fd.name, fd.qualname, fd.params, fd.body, fd.scope, fd.globals, fd.closure, fd.builtins)
  | _ => none
/-- isinstance answers b -/
def kitC (x y : Str) (b : Bool) : Chk := fun K => decide (PySem.W.kitOne K (.ref (gad K x)) (.ref (gad K y)) = some b)
theorem kitC_ok {K : PySem.W.Frag} {x y : Str} {b : Bool} (h : kitC x y b K = true) : PySem.W.kitOne K (.ref (gad K x)) (.ref (gad K y)) = some b := of_decide_eq_true h
def kitT (x : Str) (n : String) (b : Bool) : Chk := fun K => decide (PySem.W.kitOne K (.ref (gad K x)) (.type n) = some b)
theorem kitT_ok {K : PySem.W.Frag} {x : Str} {n : String} {b : Bool} (h : kitT x n b K = true) : PySem.W.kitOne K (.ref (gad K x)) (.type n) = some b := of_decide_eq_true h
/-- an own error -/
def oexB (x : Str) : Chk := fun K => (match K.lookup (gad K x) with
    | some ⟨.type "type", dd, .cls cd, ⟨[k0, k1, k2, k3, some (.builtin n), k5]⟩⟩ => (match cd.mro with
      | .ref C' :: bm => decide (C' = gad K x) && (decide (n = "ValueError.__new__") && (cd.hasDict && (!cd.hasDel && PySem.HandSPX.refsVE bm)))
      | _ => false)
    | _ => false) && (He.eqO (PySem.W.findIn K (.ref (gad K x)) "__setattr__") (some (some (.builtin "object.__setattr__"))) && (decide (PySem.W.subIn K (.ref (gad K x)) (.type "BaseException") = some true) &&
      (decide (PySem.W.typeIn K (.ref (gad K x)) = some (.type "type")) && PySem.W.keepIn K (.ref (gad K x)))))
theorem oexB_ok {K : PySem.W.Frag} {x : Str} (h : oexB x K = true) : OexC K (gad K x) := by
  obtain ⟨h0, h⟩ := He.ba h
  obtain ⟨h1, h⟩ := He.ba h
  obtain ⟨h2, h⟩ := He.ba h
  obtain ⟨h3, h4⟩ := He.ba h
  refine ⟨?_, He.eqO_ok h1, of_decide_eq_true h2, of_decide_eq_true h3, h4⟩
  split at h0
  · rename_i dd cd k0 k1 k2 k3 n k5 e
    split at h0
    · rename_i C' bm em
      obtain ⟨a1, h0⟩ := He.ba h0
      obtain ⟨a2, h0⟩ := He.ba h0
      obtain ⟨a3, h0⟩ := He.ba h0
      obtain ⟨a4, a5⟩ := He.ba h0
      have e1 : C' = gad K x := of_decide_eq_true a1
      have e2 : n = "ValueError.__new__" := of_decide_eq_true a2
      obtain ⟨nm, bs, mro, ns, qn, hd, sn, sub, ab, col, del⟩ := cd
      dsimp only at em a3 a4
      subst em a3
      have a4 : del = false := by simpa using a4
      subst a4 e2
      rw [e1] at e
      exact ⟨nm, qn, ns, bs, bm, sn, sub, ab, col, dd, k0, k1, k2, k3, k5, e, a5⟩
    · cases h0
  · cases h0
/-- the __init__ of an own error -/
def einB (x : Str) : Chk := fun K => He.eqO (PySem.W.findIn K (.ref (gad K x)) "__init__") (some (some (.ref (mad K (gad K x) "__init__")))) && decide (PySem.W.typeIn K (.ref (mad K (gad K x) "__init__")) = some (.type "function"))
theorem einB_ok {K : PySem.W.Frag} {x : Str} (h : einB x K = true) : PySem.W.findIn K (.ref (gad K x)) "__init__" = some (some (.ref (mad K (gad K x) "__init__"))) ∧ PySem.W.typeIn K (.ref (mad K (gad K x) "__init__")) = some (.type "function") :=
  ⟨He.eqO_ok (He.ba h).1, of_decide_eq_true (He.ba h).2⟩
def xfC (x : Str) : Chk := fun K => xfB K (gad K x)
theorem xfC_ok {K : PySem.W.Frag} {x : Str} (h : xfC x K = true) : XfC K (gad K x) := xfB_ok h
def excB (x : Str) : Chk := fun K => He.eqO (PySem.W.findIn K (.ref (gad K x)) "__getattribute__") (some (some (.builtin "BaseException.__getattribute__"))) && (He.eqO (PySem.W.findIn K (.ref (gad K x)) "__getattr__") (some none) &&
  (decide (PySem.W.subIn K (.ref (gad K x)) (.type "BaseException") = some true) && (PySem.W.hasDictIn K (gad K x) && (He.eqO (PySem.W.findIn K (.ref (gad K x)) "__class__") (some (some (.builtin "object.__class__"))) &&
    (He.eqO (PySem.W.specialIn K (.builtin "object.__class__") "__get__") (some (some (.builtin "getset_descriptor.__get__"))) && (decide (PySem.W.takesIn K (.builtin "object.__class__") = some true) && decide (PySem.W.mroIn K (gad K x) (.type "object") = some true)))))))
theorem excB_ok {K : PySem.W.Frag} {x : Str} (h : excB x K = true) : ExcC K (gad K x) := by
  obtain ⟨h1, h⟩ := He.ba h
  obtain ⟨h2, h⟩ := He.ba h
  obtain ⟨h3, h⟩ := He.ba h
  obtain ⟨h4, h⟩ := He.ba h
  obtain ⟨h5, h⟩ := He.ba h
  obtain ⟨h6, h⟩ := He.ba h
  obtain ⟨h7, h8⟩ := He.ba h
  exact ⟨He.eqO_ok h1, He.eqO_ok h2, of_decide_eq_true h3, h4, He.eqO_ok h5, He.eqO_ok h6, of_decide_eq_true h7, of_decide_eq_true h8⟩
/-- a class's constant -/
def cvalB (x f : Str) (i : Int) : Chk := fun K => PySem.W.readsIn K (gad K x) (.type "type") && (He.eqO (PySem.W.specialIn K (.ref (gad K x)) "__getattribute__") (some (some (.builtin "type.__getattribute__"))) && (match PySem.W.findCls K (.ref (gad K x)) (.type "type") f with
  | some (.val (.int j _)) => decide (j = i)
  | _ => false))
theorem cvalB_ok {K : PySem.W.Frag} {x f : Str} {i : Int} (h : cvalB x f i K = true) : ∃ u, ClX.CRead K (gad K x) (.type "type") ∧ ClX.CVal K (gad K x) (.type "type") f (.int i) u := by
  obtain ⟨h1, h⟩ := He.ba h
  obtain ⟨h2, h3⟩ := He.ba h
  split at h3
  · rename_i j t e
    have ej : j = i := of_decide_eq_true h3
    subst ej
    exact ⟨_, ⟨h1, He.eqO_ok h2⟩, ⟨e, _, rfl⟩⟩
  · cases h3
/-- an own __add__, __len__ -/
def dunB (x m : Str) : Chk := fun K => He.eqO (PySem.W.findIn K (.ref (gad K x)) m) (some (some (.ref (mad K (gad K x) m)))) && PySem.W.isFn K (.ref (mad K (gad K x) m))
theorem dunB_ok {K : PySem.W.Frag} {x m : Str} (h : dunB x m K = true) : PySem.W.findIn K (.ref (gad K x)) m = some (some (.ref (mad K (gad K x) m))) ∧ PySem.W.isFn K (.ref (mad K (gad K x) m)) = true := ⟨He.eqO_ok (He.ba h).1, (He.ba h).2⟩
def selfB (x : Str) : Chk := fun K => PySem.W.selfFirst K (gad K x)
theorem ite_i {b : Bool} {A B : Prop} (h1 : b = true → A) (h2 : b = false → B) : if b = true then A else B := by
  cases b with
  | true => exact h1 rfl
  | false => exact h2 rfl
theorem dt {p : Prop} [Decidable p] (h : decide p = true) : p := of_decide_eq_true h
theorem df {p : Prop} [Decidable p] (h : decide p = false) : ¬p := of_decide_eq_false h
end Cy
namespace Cy
open PySem PySem.Spec PyProof.Rows L2
/-- what a loop walks: a list, a tuple, a text -/
inductive SeqP (K : PySem.W.Frag) (x : V) (H : Hp) (R : It → Hp → Prop) : Prop where
  | l {a : Addr} {xs : List V} (e : x = .ref a) (h : SqL K H a xs) (k : R (Itl K a) H)
  | t {a : Addr} {xs : List V} (e : x = .ref a) (h : SqT K H a xs) (k : R (Itt K a) H)
  | s {y : Str} (e : x = .str y) (k : R (Its y) H)
def iSeq (K : PySem.W.Frag) (tl : TE) : TI := fun σ H R => tl σ H fun x H1 => SeqP K x H1 R
theorem pi_seq {X : Cx} {tg l : Expr} {tl : TE} (hl : PE X l tl) : PI X tg l (iSeq X.K tl) := by
  refine ⟨fun pins s σ H R I h => ?_⟩
  refine thn (hl.run pins s σ H _ I h) fun v s1 ⟨x, H1, I1, r1, q1⟩ => ?_
  cases q1 with
  | l e hq q =>
    rename_i a xs
    subst e
    cases r1
    obtain ⟨its, rv, p, hz⟩ := I1.list hq
    refine wpAny_pyIter_list p.isList ?_
    refine ⟨s1.heap.objs.size, [s1.heap.objs.size], _, _, H1, rfl, I1.kept (t' := s1.toks) fun b o e => Heap.get?_push_of_some _ e, turn_list a _, ⟨_, Heap.get?_push_size _ rfl, rfl, rfl⟩, fun b hb => ?_, q⟩
    have e : b = s1.heap.objs.size := by simpa using hb
    subst e
    exact I1.fpOk (Nat.le_refl _) (I1.hok.fresh (Nat.le_refl _))
  | t e hq q =>
    rename_i a xs
    subst e
    cases r1
    obtain ⟨its, rv, p, hz⟩ := I1.tuple hq
    refine wpAny_pyIter_tuple (show s1.heap.IsTuple a its.toArray from p) ?_
    refine ⟨s1.heap.objs.size, [s1.heap.objs.size], _, _, H1, rfl, I1.kept (t' := s1.toks) fun b o e => Heap.get?_push_of_some _ e, turn_tuple a _, ⟨_, Heap.get?_push_size _ rfl, rfl, rfl⟩, fun b hb => ?_, q⟩
    have e : b = s1.heap.objs.size := by simpa using hb
    subst e
    exact I1.fpOk (Nat.le_refl _) (I1.hok.fresh (Nat.le_refl _))
  | s e q =>
    rename_i x
    subst e
    obtain ⟨t, rfl⟩ := r1
    cases ha : x.cps.all (· < 128)
    · exact wpAny_pyIter_wide ha (pi_one (tk := s1.toks) I1 _ (turn_str _ x t "str_iterator" (.inr rfl)) ⟨_, Heap.get?_push_size _ rfl, rfl, rfl⟩ q)
    · exact wpAny_pyIter_ascii ha (pi_one (tk := s1.toks) I1 _ (turn_str _ x t "str_ascii_iterator" (.inl rfl)) ⟨_, Heap.get?_push_size _ rfl, rfl, rfl⟩ q)
/-- a formatted part by values -/
def cFmt (te : TE) : TE := fun σ H Q => te σ H fun x H1 => match x with
  | .str y => y.length ≤ sizeLine ∧ Q (.str y) H1
  | .int i => i.natAbs.log2 < 1920 ∧ Q (.str (toString i)) H1
  | _ => False
theorem pe_cFmt {X : Cx} {e : Expr} {te : TE} {pos : Pos} (he : PE X e te) : PE X (.FormattedValue e (-1) none pos) (cFmt te) := by
  refine ⟨fun pins s σ H Q I h => ?_⟩
  refine wpAny_FormattedValue_plain (thn (he.run pins s σ H _ I h) fun v s1 hv => ?_)
  obtain ⟨x, H1, I1, r1, q⟩ := hv
  cases x <;> first
    | exact (show False from q).elim
    | skip
  · obtain ⟨t, rfl⟩ := r1
    exact wpAny_formatField_int q.1 ⟨.str (toString _), H1, I1.tok _, ⟨_, rfl⟩, q.2⟩
  · obtain ⟨t, rfl⟩ := r1
    exact wpAny_formatField_str ⟨.str _, H1, I1, ⟨t, rfl⟩, q.2⟩ ⟨.str _, H1, I1.tok _, ⟨_, rfl⟩, q.2⟩ q.1
/-- the parts of an f-string by values -/
def cJs : List TE → Str → St → Hp → (Str → Hp → Prop) → Prop
  | [], acc, _, H, Q => Q acc H
  | t :: ts, acc, σ, H, Q => t σ H fun x H1 => match x with
    | .str y => (acc ++ y).length ≤ sizeLine ∧ cJs ts (acc ++ y) σ H1 Q
    | _ => False
def cJoin (ts : List TE) : TE := fun σ H Q => cJs ts Str.empty σ H fun out H1 => Q (.str out) H1
theorem cj_run {X : Cx} {pins : List (Addr × Obj)} {σ : St} {es : List Expr} {ts : List TE} (h : PJ X es ts) : ∀ (acc : Str) (s : Shared) (H : Hp) (Q : Str → Hp → Prop) (R : Str → Shared → Prop), acc.length ≤ sizeLine → Inv X pins σ H s → cJs ts acc σ H Q →
    (∀ out s1 H1, out.length ≤ sizeLine → Inv X pins σ H1 s1 → Q out H1 → R out s1) → Joins (model X.prog X.w) X.A X.xe (evalEach es X.env) acc R s := by
  induction h with
  | nil =>
    intro acc s H Q R hz I q k
    have e0 : evalEach [] X.env = [] := by first | rfl | simp [evalEach]
    rw [e0]
    exact k acc s H hz I q
  | @cons e t es ts he r ih =>
    intro acc s H Q R hz I q k
    have e0 : evalEach (e :: es) X.env = eval e X.env :: evalEach es X.env := by first | rfl | simp [evalEach]
    rw [e0]
    refine thn (he.run pins s σ H _ I q) fun v s1 hv => ?_
    obtain ⟨x, H1, I1, r1, q1⟩ := hv
    cases x <;> first
      | exact (show False from q1).elim
      | skip
    rename_i y
    obtain ⟨hy, q1⟩ : (acc ++ y).length ≤ sizeLine ∧ cJs ts (acc ++ y) σ H1 Q := q1
    obtain ⟨tk, rfl⟩ := r1
    exact ⟨y, tk, rfl, hy, ih (acc ++ y) s1 H1 Q R hy I1 q1 k⟩
theorem pe_cJoin {X : Cx} {v1 v2 : Expr} {rest : List Expr} {ts : List TE} {pos : Pos} (h : PJ X (v1 :: v2 :: rest) ts) : PE X (.JoinedStr (v1 :: v2 :: rest) pos) (cJoin ts) := by
  refine ⟨fun pins s σ H Q I q => ?_⟩
  exact wpAny_JoinedStr (cj_run h Str.empty s H (fun out H1 => Q (.str out) H1) _ (Nat.zero_le _) I q fun out s1 H1 hz I1 q1 => ⟨hz, .str out, H1, I1.tok _, ⟨_, rfl⟩, q1⟩)
/-- targets by values -/
def cgCons (t : TG) (u : TGs) : TGs := fun vs σ H Q => match vs with
  | v :: r => t v σ H fun σ' H' => u r σ' H' Q
  | [] => False
def cgNil : TGs := fun vs σ H Q => match vs with
  | [] => Q σ H
  | _ => False
inductive UnpP (K : PySem.W.Frag) (n : Nat) (v : V) (H : Hp) (R : List V → Prop) : Prop where
  | t {a : Addr} {xs : List V} (e : v = .ref a) (h : SqT K H a xs) (hl : xs.length = n) (k : R xs)
def cgTup (K : PySem.W.Frag) (n : Nat) (t : TGs) : TG := fun v σ H Q => UnpP K n v H fun xs => t xs σ H Q
section
variable {X : Cx} {e : Expr} {es : List Expr} {pos : Pos}
theorem pgs_cnil : PGs X [] cgNil := ⟨fun pins s σ H vs us Q I r h => by
  match vs, h with
  | [], h => exact pgs_nil.run pins s σ H [] us Q I r ⟨rfl, h⟩⟩
theorem pgs_ccons {t : TG} {u : TGs} (h1 : PG X e t) (h2 : PGs X es u) (hs : (assignEach (e :: es) X.env).map (·.2) = assign e X.env :: (assignEach es X.env).map (·.2) := by rfl) : PGs X (e :: es) (cgCons t u) := ⟨fun pins s σ H vs us Q I r h => by
  match vs, h with
  | v :: vr, h => exact (pgs_cons h1 h2 hs).run pins s σ H _ us Q I r ⟨v, vr, rfl, h⟩⟩
theorem pg_ctup {k : Nat} {t : TGs} {n : Nat} (hc : X.calm = true) (h : PGs X es t) (hn : (assignEach es X.env).length = n := by rfl) (hst : (assignEach es X.env).findIdx? (·.1) = none := by rfl) : PG X (.Tuple es k pos) (cgTup X.K n t) := ⟨fun pins s σ H v u Q I r hw => by
  obtain ⟨ev, hx, hl, k⟩ := hw
  exact (pg_tup hc h hn hst).run pins s σ H v u Q I r ⟨_, _, ev, hx, hl, k⟩⟩
end
end Cy
namespace Cy
open PySem PySem.Spec PyProof.Rows L2
/-- a class whose instances are made by object's __init__ -/
structure MkZ (K : PySem.W.Frag) (C : Addr) : Prop where
  makes : PySem.W.makesIn K C = true
  init : PySem.W.findIn K (.ref C) "__init__" = some (some (.builtin "object.__init__"))
def mkzB (x : Str) : Chk := fun K => PySem.W.makesIn K (gad K x) && He.eqO (PySem.W.findIn K (.ref (gad K x)) "__init__") (some (some (.builtin "object.__init__")))
theorem mkzB_ok {K : PySem.W.Frag} {x : Str} (h : mkzB x K = true) : MkZ K (gad K x) := ⟨(He.ba h).1, He.eqO_ok (He.ba h).2⟩
section
variable {X : Cx} {W : WX} {j : Nat} {x : Str} {p pos : Pos}
theorem run_makeZ {C : Addr} {pins : List (Addr × Obj)} {σ : St} {H : Hp} {s : Shared} {Q : VK} (I : Inv X pins σ H s) (M : MkZ X.K C)
    (h : ∀ x dx, H x = none → H dx = none → dx ≠ x → Q (.ref x) (upd (upd H dx (.own x)) x (.ins C dx []))) :
    wpAny (model X.prog X.w) X.A (call (.ref C) []) (EP X pins σ Q) X.xe s := by
  have hq := h (s.heap.objs.size + 1) s.heap.objs.size (I.hok.fresh (Nat.le_succ _)) (I.hok.fresh (Nat.le_refl _)) (Nat.ne_of_lt (Nat.lt_succ_self _))
  have I2 := Inv.made (C := C) I
  refine wpAny_call (make_map0 I.kIn M.makes M.init (fun self => PySem.W.Looks.of_pure (PySem.W.oi_bind _)) ?_)
  have X2 := I2.kIn
  have ho : ((s.heap.push PySem.W.emptyDict).push (PySem.W.instObj C s.heap.objs.size)).get? (s.heap.objs.size + 1) = some (PySem.W.instObj C s.heap.objs.size) := by
    have := Heap.get?_push_size (s.heap.push PySem.W.emptyDict) (o := PySem.W.instObj C s.heap.objs.size) rfl
    rwa [Heap.size_push] at this
  have t1 : PySem.W.Looks (model X.prog X.w) ((s.heap.push PySem.W.emptyDict).push (PySem.W.instObj C s.heap.objs.size)) (typeOf (.ref (s.heap.objs.size + 1))) (.ref C) := NwA.type_at ho rfl
  have t2 : PySem.W.Looks (model X.prog X.w) ((s.heap.push PySem.W.emptyDict).push (PySem.W.instObj C s.heap.objs.size)) (isInstance (.ref (s.heap.objs.size + 1)) (.type "object")) true := t1.andThen (PySem.W.looks_mroIn X2 (mro_obj M.makes))
  refine codeAny_call_builtin PySem.W.oi_plain PySem.W.entry_oi (@PySem.W.check_slot (model X.prog X.w) _ _ _ "object.__init__" "object" "__init__" (.ref _) [] [] _ PySem.W.oi_kind PySem.W.oi_split t2 (NwA.oi_args_any (.ref _) [] []) ?_)
  rw [PySem.W.oi_run]
  exact wpAny_pure ⟨rfl, ⟨V.ref (s.heap.objs.size + 1), _, I2, rfl, hq⟩⟩
inductive New0P (g : Wd) (j : Nat) (C : Addr) (H : Hp) (Q : VK) (E : XK) : Prop where
  | own (m : MakeP g j C [] H Q E)
  | obj (M : MkZ g.K C) (h : ∀ x dx, H x = none → H dx = none → dx ≠ x → Q (.ref x) (upd (upd H dx (.own x)) x (.ins C dx [])))
def cNew0 (g : Wd) (j : Nat) (W : WX) (C : Addr) : TE := fun σ H Q => New0P g j C H Q (fun cls d H' => W cls d σ H')
theorem pe_cNew0 (tk : Takes X W) (hr : Room j X.A) (hf : Gf (.of X) x) (hg : Gl X x) (hdb : (x == ("__debug__" : Str)) = false := by decide) : PE X (.Call (.Name x p) [] [] pos) (cNew0 (.of X) j W (gad X.K x)) := by
  refine ⟨fun pins s σ H Q I h => ?_⟩
  refine wpAny_Call_Name_kw (ld_glob I hg hf.mg ?_ hdb)
  refine PySem.W.callWith_K0 I.kIn hf.kp ?_
  cases h with
  | own m => exact run_makeP (us := []) hr (passAt tk σ) I .nil m
  | obj M h => exact run_makeZ I M h
end
def cTry (K : PySem.W.Frag) (c : Value) (i : Nat) (tb : WX → TS) (ts : Addr → Value → Option Addr → TS) (Wout : WX) : TS := fun D σ H => tb (wAs K c i ts Wout D) D σ H
section
variable {X : Cx} {x n : Str} {c : Value} {i : Nat} {body suite : List Stmt} {b₀ : Stmt} {np pos pos' : Pos} {tb : WX → TS} {ts : Addr → Value → Option Addr → TS} {Wout : WX}
theorem ps_cTry (hs : X.stack = X.env :: X.outer) (hf : X.env.frame = some X.env.locals) (hN : X.N.Nodup) (hi : X.N[i]? = some n) (hln : X.env.kindOf n = some .local) (hc : Names X x c) (tk : Takes X Wout)
    (hb : ∀ (W : WX) (pn : List (Addr × Obj)) (xe : Value → Shared → Prop), Takes (X.tr pn xe) W → PassesOwn (model X.prog X.w) X.A X.env xe → PSs (X.tr pn xe) body (tb W))
    (hsu : ∀ (a : Addr) (oe : Obj) (cls : Value) (d : Option Addr) (pn : List (Addr × Obj)), Zc cls d oe → (∃ vs, oe.data = .fields vs) → PSs (X.suite a ((a, oe) :: pn)) (b₀ :: suite) (ts a cls d)) :
    PS X (.Try body [.ExceptHandler (some (.Name x np)) (some n) (b₀ :: suite) pos'] [] [] pos) (cTry X.K c i tb ts Wout) := ps_try_as hs hf hN hi hln hc tk hb hsu
end
theorem roomH_mark {k : Nat} {A : Around} {v : Option Value} (r : Room k A) : L2H.RoomH k (A.mark v) := ⟨r.dp, r.un⟩
theorem roomH_units {k : Nat} {A : Around} (r : L2H.RoomH k A) : A.units + 64 < cLine := by have := r.un; omega
/-- isinstance may ask its instances -/
def tyB (x : Str) : Chk := fun K => He.eqO (PySem.W.findIn K (.ref (gad K x)) "__class__") (some (some (.builtin "object.__class__"))) && (He.eqO (PySem.W.specialIn K (.builtin "object.__class__") "__get__") (some (some (.builtin "getset_descriptor.__get__"))) &&
  (decide (PySem.W.takesIn K (.builtin "object.__class__") = some true) && decide (PySem.W.mroIn K (gad K x) (.type "object") = some true)))
theorem tyB_ok {K : PySem.W.Frag} {x : Str} (h : tyB x K = true) (cl : Cls K (gad K x)) {H : Hp} {a dx : Addr} {fs : List (Str × V)} (e : H a = some (.ins (gad K x) dx fs)) : TyX K H (.ref a) (.ref (gad K x)) := by
  obtain ⟨h1, h⟩ := He.ba h
  obtain ⟨h2, h⟩ := He.ba h
  obtain ⟨h3, h4⟩ := He.ba h
  exact .base (.ins e cl (He.eqO_ok h1) (He.eqO_ok h2) (of_decide_eq_true h3) (of_decide_eq_true h4))
theorem fnG_of {g : Wd} {fd : FuncData} {f : Addr} {ps : List Str} {sp : Sp} {k : Nat} (F : FnOk g.P g.w g.K g.mg g.base (L2.CX g.P g.w) k f fd ps sp) (hb : Binds g.K fd ps []) : FnG g k f sp :=
  (F.raw hb .nil).imp fun vs H Q E h => by rw [List.append_nil]; exact h
end Cy
namespace Cy
open PySem PySem.Spec PyProof.Rows L2
inductive JoinL (K : PySem.W.Frag) (a : Str) (p : Addr) (H : Hp) (Q : VK) : Prop where
  | by {ys : List Str} (h : SqL K H p (ys.map V.str)) (hl : (ys.map (·.length)).sum + ys.length * a.length ≤ 16777216) (k : Q (.str (Txt.join a ys)) H)
def mJoin (K : PySem.W.Frag) : Str → List V → Hp → VK → Prop := fun a xs H Q => match xs with
  | [.ref p] => JoinL K a p H Q
  | _ => False
theorem m_join {X : Cx} : MtS' X "str.join" (mJoin X.K) := .of mt_join fun a xs H Q h => by
  match xs, h with
  | [.ref p], h =>
    obtain ⟨h, hl, k⟩ : JoinL X.K a p H Q := h
    exact ⟨a, p, _, rfl, rfl, .inl h, hl, k⟩
theorem JoinL.mk {K : PySem.W.Frag} {a : Str} {p : Addr} {H : Hp} {Q : VK} (ys : List Str) (h : H p = some (.lst (ys.map V.str))) (hl : (ys.map (·.length)).sum + ys.length * a.length ≤ 16777216)
    (k : Q (.str (Txt.join a ys)) H) : JoinL K a p H Q := .by (SqL.of h) hl k
end Cy
namespace Cy
open PySem PySem.Spec PyProof.Rows L2
section
variable {X : Cx}
/-- list.count, flat items -/
theorem count_flat {y : V} : ∀ {ys : List V} {us : List Value}, Vals ys us → ys.all flatV = true → us.countP (eqU y) = ys.countP fun z => eqV z y
  | _, _, .nil, _ => rfl
  | z :: ys, u :: us, .cons r t, f => by
    rw [List.all_cons, Bool.and_eq_true] at f
    rw [List.countP_cons, List.countP_cons, count_flat t f.2, eqU_of r f.1]
inductive CntP (K : PySem.W.Frag) (p : Addr) (y : V) (H : Hp) (Q : VK) : Prop where
  | l {ys : List V} (h : SqL K H p ys) (fy : flatV y = true) (fys : ys.all flatV = true) (k : Q (.int ((ys.countP fun z => eqV z y : Nat) : Int)) H)
def rCntF (K : PySem.W.Frag) : V → List V → Hp → VK → Prop := fun x xs H Q => match x, xs with
  | .ref p, [y] => CntP K p y H Q
  | _, _ => False
theorem mt_lcountF : MtR X "list.count" (rCntF X.K) := by
  intro pins s σ H x xs v us Q I rx rxs h
  match x, xs, rx, rxs, h with
  | .ref p, [y], rx, rxs, h =>
    have h : CntP X.K p y H Q := h
    obtain ⟨hs, fy, fys, q⟩ := h
    cases rx
    obtain ⟨u, rfl, ru⟩ := rxs.one
    obtain ⟨its, rv, ⟨⟨cls, dd, data, sl⟩, n, ho, hc, hdn, hd⟩, hlen⟩ := I.list hs
    simp only at hc hd
    subst hc hd
    refine call_meets PySem.F.slot_list_count ⟨_, ho, rfl⟩ PySem.F.entry_list_count (PySem.F.args_list_count_2 _ _)
      (SeqAt.list_countAt p its.toArray n dd sl u (eqU y)) ⟨ho, fun z hz => mem_eqAt ru fy rv fys z (by simpa using hz), ?_⟩
    have ec : its.toArray.toList.countP (eqU y) = _ := count_flat (y := y) rv fys
    refine ⟨.int _, H, I.tok _, ⟨s.toks, ?_⟩, q⟩
    show Value.int ((its.toArray.toList.countP (eqU y) : Nat) : Int) s.toks = _
    rw [ec]
/-- list.index, flat items -/
inductive IndP (K : PySem.W.Frag) (p : Addr) (y : V) (H : Hp) (Q : VK) : Prop where
  | l {ys : List V} {j : Nat} {z : V} (h : SqL K H p ys) (fy : flatV y = true) (fys : ys.all flatV = true) (e : ys[j]? = some z) (ez : eqV z y = true) (no : ∀ (m : Nat) (z' : V), m < j → ys[m]? = some z' → eqV z' y = false) (k : Q (.int ((j : Nat) : Int)) H)
def rIndF (K : PySem.W.Frag) : V → List V → Hp → VK → Prop := fun x xs H Q => match x, xs with
  | .ref p, [y] => IndP K p y H Q
  | _, _ => False
theorem mt_indexF : MtR X "list.index" (rIndF X.K) := by
  intro pins s σ H x xs v us Q I rx rxs h
  match x, xs, rx, rxs, h with
  | .ref p, [y], rx, rxs, h =>
    have h : IndP X.K p y H Q := h
    obtain ⟨hs, fy, fys, e, ez, no, q⟩ := h
    exact mt_index pins s σ H _ _ v us Q I rx rxs ⟨p, _, y, _, _, rfl, rfl, hs, fy, fys, e, ez, no, q⟩
/-- d[y] -/
inductive DgP (x y : V) (H : Hp) (Q : VK) : Prop where
  | by {a : Addr} {v : V} (e : x = .ref a) (h : DGet H a y (some v)) (k : Q v H)
def cDGet (td ty : TE) : TE := fun σ H Q => td σ H fun x H1 => ty σ H1 fun y H2 => DgP x y H2 Q
variable {o i e value : Expr} {pos pos' : Pos} {td ty tv : TE}
theorem pe_cDGet (hu : X.A.units + 64 < cLine) (ho : PE X o td) (hi : PE X i ty) (hs : NoSl i) : PE X (.Subscript o i pos) (cDGet td ty) := by
  refine ⟨fun pins s σ H Q I h => ?_⟩
  refine subD_of PySem.F.slot_dict_getitem.lookup hs (thn (ho.run pins s σ H _ I h) fun u s1 ⟨x, H1, I1, rx, q1⟩ => thn (hi.run pins s1 σ H1 _ I1 q1) fun iv s2 ⟨y, H2, I2, ry, q⟩ => ?_)
  obtain ⟨ex, g, q2⟩ := q
  subst ex
  obtain rfl := rx
  exact ⟨dict_typeIs I2 g, d_getItem (by omega) I2 g ry fun w' s3 I3 rw' => ⟨_, H2, I3, rw', q2⟩⟩
/-- y not in d, y in d -/
inductive DiP (neg : Bool) (x y : V) (H : Hp) (Q : Bool → Hp → Prop) : Prop where
  | by {a : Addr} {r : Option V} (e : x = .ref a) (h : DGet H a y r) (k : Q (neg != r.isSome) H)
def tDIn' (neg : Bool) (ty td : TE) : TT := fun σ H Q => ty σ H fun y H1 => td σ H1 fun x H2 => DiP neg x y H2 Q
theorem pt_cDIn (hu : X.A.units + 64 < cLine) (hi : PE X i ty) (ho : PE X o td) (hm : behindInMarks .In o = false) : PT X (.Compare i [.In] [o] pos) (tDIn' false ty td) := by
  refine ⟨fun pins s σ H Q I h => ?_⟩
  refine wpAny_isTrue_Compare1 (thn (hi.run pins s σ H _ I h) fun iv s1 ⟨y, H1, I1, ry, q1⟩ => thn (ho.run pins s1 σ H1 _ I1 q1) fun u s2 ⟨x, H2, I2, rx, q⟩ => ?_) hm
  obtain ⟨ex, g, q2⟩ := q
  subst ex
  obtain rfl := rx
  rw [show ∀ b : Bool, (false != b) = b from by decide] at q2
  exact d_in (by omega) I2 g ry fun s3 I3 => wpAny_truthy_bool ⟨H2, I3, q2⟩
theorem pt_cDNotIn (hu : X.A.units + 64 < cLine) (hi : PE X i ty) (ho : PE X o td) (hm : behindInMarks .NotIn o = false) : PT X (.Compare i [.NotIn] [o] pos) (tDIn' true ty td) := by
  refine ⟨fun pins s σ H Q I h => ?_⟩
  refine wpAny_isTrue_Compare1 (thn (hi.run pins s σ H _ I h) fun iv s1 ⟨y, H1, I1, ry, q1⟩ => thn (ho.run pins s1 σ H1 _ I1 q1) fun u s2 ⟨x, H2, I2, rx, q⟩ => ?_) hm
  obtain ⟨ex, g, q2⟩ := q
  subst ex
  obtain rfl := rx
  rw [show ∀ b : Bool, (true != b) = !b from by decide] at q2
  exact d_notIn (by omega) I2 g ry fun s3 I3 => wpAny_truthy_bool ⟨H2, I3, q2⟩
/-- d[y] = v -/
inductive DpP (x y v : V) (H : Hp) (N : Hp → Prop) : Prop where
  | by {a : Addr} {H' : Hp} (e : x = .ref a) (h : DPut H a y v H') (k : N H')
def sDPut' (td ty tv : TE) : TS := fun D σ H => tv σ H fun v H1 => td σ H1 fun x H2 => ty σ H2 fun y H3 => DpP x y v H3 (D.nx σ)
theorem ps_cDPut (hu : X.A.units + 64 < cLine) (ho : PE X o td) (hi : PE X i ty) (hv : PE X value tv) (hs : swapsWith value (some (.Subscript o i pos')) pos.line X.env = pure false := by rfl) :
    PS X (.Assign [.Subscript o i pos'] value pos) (sDPut' td ty tv) := by
  refine ⟨fun pins s σ H D I h => ?_⟩
  refine wpAny_Assign_Subscript (thn (hv.run pins s σ H _ I h) fun r s1 ⟨v, H1, I1, rv, q1⟩ => thn (ho.run pins s1 σ H1 _ I1 q1) fun u s2 ⟨x, H2, I2, rx, q2⟩ => thn (hi.run pins s2 σ H2 _ I2 q2) fun iv s3 ⟨y, H3, I3, ry, q⟩ => ?_) hs
  obtain ⟨ex, g, q3⟩ := q
  subst ex
  obtain rfl := rx
  exact d_setItem (by omega) I3 g ry rv fun s4 I4 => ⟨σ, _, I4, q3⟩
/-- xs[::-1] -/
inductive RevP (K : PySem.W.Frag) (x : V) (H : Hp) (Q : VK) : Prop where
  | l {a : Addr} {xs : List V} (e : x = .ref a) (h : SqL K H a xs) (k : ∀ p, H p = none → Q (.ref p) (upd H p (.lst xs.reverse)))
def cRev (K : PySem.W.Frag) (te : TE) : TE := fun σ H Q => te σ H fun x H1 => RevP K x H1 Q
theorem pe_cRev {e : Expr} {te : TE} {k : Nat} {p1 p2 p3 pos : Pos} (he : PE X e te) : PE X (.Subscript e (.Slice none none (some (.UnaryOp .USub (.Constant (.int 1) k p1) p2)) p3) pos) (cRev X.K te) := by
  have h2 : PE X e (fun σ H Q => ∃ P : VK, te σ H P ∧ ∀ x H1, P x H1 → Q x H1) := ⟨fun pins s σ H Q I ⟨P, h, hp⟩ => thn (he.run pins s σ H P I h) fun v s1 ⟨x, H1, I1, r1, q⟩ => ⟨x, H1, I1, r1, hp _ _ q⟩⟩
  refine ⟨fun pins s σ H Q I h => (pe_revL h2).run pins s σ H Q I ⟨fun x H1 => RevP X.K x H1 Q, h, fun x H1 q => ?_⟩⟩
  obtain ⟨ex, hx, kk⟩ := q
  exact ⟨_, _, ex, hx, kk⟩
end
end Cy
namespace Cy
open PySem PySem.Spec PyProof.Rows L2
abbrev kG (n : Nat) (g : Addr → Option Obj) : PySem.W.Frag := He.frG g (He.asD g n ++ [cStatics])
theorem mp2 {S A B : Type} {E : Option S} {f : S → A} {g : S → B} {a : A} {b : B} (x : E.map f = some a) (y : E.map g = some b) : E.map (fun s => (f s, g s)) = some (a, b) := by
  cases E with
  | none => cases x
  | some s => exact congrArg some (Prod.ext (Option.some.inj x) (Option.some.inj y))
theorem mpApp {S : Type} {E : Option S} {k : S → PySem.W.Frag} {l1 l2 : List Chk} (x : E.map (fun s => l1.map fun c => c (k s)) = some (l1.map fun _ => true)) (y : E.map (fun s => l2.map fun c => c (k s)) = some (l2.map fun _ => true)) :
    E.map (fun s => (l1 ++ l2).map fun c => c (k s)) = some ((l1 ++ l2).map fun _ => true) := by
  cases E with
  | none => cases x
  | some s =>
    refine congrArg some ?_
    show (l1 ++ l2).map (fun c => c (k s)) = (l1 ++ l2).map fun _ => true
    rw [List.map_append, List.map_append]
    exact congr (congrArg _ (Option.some.inj x)) (Option.some.inj y)
theorem mpF {S : Type} {E : Option S} {k : S → PySem.W.Frag} {l1 l2 : List He.Fa} (x : E.map (fun s => l1.all fun f => f.ok (k s)) = some true) (y : E.map (fun s => l2.all fun f => f.ok (k s)) = some true) :
    E.map (fun s => (l1 ++ l2).all fun f => f.ok (k s)) = some true := by
  cases E with
  | none => cases x
  | some s =>
    refine congrArg some ?_
    have a : (l1.all fun f => f.ok (k s)) = true := Option.some.inj x
    have b : (l2.all fun f => f.ok (k s)) = true := Option.some.inj y
    show ((l1 ++ l2).all fun f => f.ok (k s)) = true
    rw [List.all_append, a, b]
    rfl
theorem mpN {S : Type} {E : Option S} {k : S → PySem.W.Frag} {l1 l2 : List He.DefD} (x : E.map (fun s => (l1.all (fun d => d.ok (k s)), l1.map fun d => He.fnW (k s) d.at_)) = some (true, l1.map He.DefD.val))
    (y : E.map (fun s => (l2.all (fun d => d.ok (k s)), l2.map fun d => He.fnW (k s) d.at_)) = some (true, l2.map He.DefD.val)) :
    E.map (fun s => ((l1 ++ l2).all (fun d => d.ok (k s)), (l1 ++ l2).map fun d => He.fnW (k s) d.at_)) = some (true, (l1 ++ l2).map He.DefD.val) := by
  cases E with
  | none => cases x
  | some s =>
    refine congrArg some ?_
    obtain ⟨a1, a2⟩ := Prod.mk.inj (Option.some.inj x)
    obtain ⟨b1, b2⟩ := Prod.mk.inj (Option.some.inj y)
    show ((l1 ++ l2).all (fun d => d.ok (k s)), (l1 ++ l2).map fun d => He.fnW (k s) d.at_) = (true, (l1 ++ l2).map He.DefD.val)
    rw [List.all_append, List.map_append, List.map_append, a1, a2, b1, b2]
    rfl
theorem obs_join {S : Type} {E : Option S} {k : S → Addr → Option Obj} {n : Nat} {fa : List He.Fa} {fn : List He.DefD} {fc : List Chk} {fs : List SupX} {gs : List GetX}
    (hF : E.map (fun s => fa.all fun f => f.ok (kG n (k s))) = some true)
    (hN : E.map (fun s => (fn.all (fun d => d.ok (kG n (k s))), fn.map fun d => He.fnW (kG n (k s)) d.at_)) = some (true, fn.map He.DefD.val))
    (hC : E.map (fun s => fc.map fun c => c (kG n (k s))) = some (fc.map fun _ => true))
    (hS : E.map (fun s => (fs.map fun d => fnS (kG n (k s)) d.x, gs.map (fnGx (kG n (k s))))) = some (fs.map SupX.val, gs.map GetX.val)) :
    E.map (fun s => obsCG n fa fn fc fs gs (k s)) = some (valC fn fc fs gs) := by
  cases E with
  | none => cases hF
  | some s =>
    have a : (fa.all fun f => f.ok (kG n (k s))) = true := Option.some.inj hF
    have b : (fn.all (fun d => d.ok (kG n (k s))), fn.map fun d => He.fnW (kG n (k s)) d.at_) = (true, fn.map He.DefD.val) := Option.some.inj hN
    have c : (fc.map fun c => c (kG n (k s))) = (fc.map fun _ => true) := Option.some.inj hC
    have d : (fs.map (fun d => fnS (kG n (k s)) d.x), gs.map (fnGx (kG n (k s)))) = (fs.map SupX.val, gs.map GetX.val) := Option.some.inj hS
    obtain ⟨b1, b2⟩ := Prod.mk.inj b
    obtain ⟨d1, d2⟩ := Prod.mk.inj d
    show some ((((fa.all fun f => f.ok (kG n (k s))) && fn.all fun d => d.ok (kG n (k s))), fn.map fun d => He.fnW (kG n (k s)) d.at_), (fc.map fun c => c (kG n (k s))), (fs.map fun d => fnS (kG n (k s)) d.x), gs.map (fnGx (kG n (k s)))) = some (((true : Bool), fn.map He.DefD.val), (fc.map fun _ => true), fs.map SupX.val, gs.map GetX.val)
    rw [a, b1, b2, c, d1, d2]
    rfl
end Cy
namespace Cy
open PySem PySem.Spec PyProof.Rows L2
abbrev kL (as : List Addr) (g : Addr → Option Obj) : PySem.W.Frag := He.frG g as
def obsCL (as : List Addr) (fa : List He.Fa) (fn : List He.DefD) (fc : List Chk) (fs : List SupX) (gs : List GetX) (g : Addr → Option Obj) : AlC := obsC fa fn fc fs gs (He.frG g as)
def hookL (as : List Addr) (fa : List He.Fa) (fn : List He.DefD) (fc : List Chk) (fs : List SupX) (gs : List GetX) : PySem.W.Hook where
  α := AlC
  obs := fun s => obsCL as fa fn fc fs gs s.heap.get?
  val := fun _ => valC fn fc fs gs
  says := fun _ h => ∃ K : PySem.W.Frag, K.In h ∧ SaysC fa fn fc fs gs K
  of := fun _ _ e => ⟨_, He.frG_in, e⟩
  keeps := fun _ _ _ ⟨K, hK, c⟩ k => ⟨K, PySem.W.Frag.In.keeps hK k, c⟩
theorem obsCL_eq {as : List Addr} {fa : List He.Fa} {fn : List He.DefD} {fc : List Chk} {fs : List SupX} {gs : List GetX} {g : Addr → Option Obj} {s : Shared} (h : ∀ a, g a = s.heap.get? a) : obsCL as fa fn fc fs gs g = (hookL as fa fn fc fs gs).obs s := by
  have e : g = s.heap.get? := funext h
  rw [e] <;> rfl
theorem obsL_join {S : Type} {E : Option S} {k : S → Addr → Option Obj} {as : List Addr} {fa : List He.Fa} {fn : List He.DefD} {fc : List Chk} {fs : List SupX} {gs : List GetX}
    (hF : E.map (fun s => fa.all fun f => f.ok (kL as (k s))) = some true)
    (hN : E.map (fun s => (fn.all (fun d => d.ok (kL as (k s))), fn.map fun d => He.fnW (kL as (k s)) d.at_)) = some (true, fn.map He.DefD.val))
    (hC : E.map (fun s => fc.map fun c => c (kL as (k s))) = some (fc.map fun _ => true))
    (hS : E.map (fun s => (fs.map fun d => fnS (kL as (k s)) d.x, gs.map (fnGx (kL as (k s))))) = some (fs.map SupX.val, gs.map GetX.val)) :
    E.map (fun s => obsCL as fa fn fc fs gs (k s)) = some (valC fn fc fs gs) := by
  cases E with
  | none => cases hF
  | some s =>
    have a : (fa.all fun f => f.ok (kL as (k s))) = true := Option.some.inj hF
    have b : (fn.all (fun d => d.ok (kL as (k s))), fn.map fun d => He.fnW (kL as (k s)) d.at_) = (true, fn.map He.DefD.val) := Option.some.inj hN
    have c : (fc.map fun c => c (kL as (k s))) = (fc.map fun _ => true) := Option.some.inj hC
    have d : (fs.map (fun d => fnS (kL as (k s)) d.x), gs.map (fnGx (kL as (k s)))) = (fs.map SupX.val, gs.map GetX.val) := Option.some.inj hS
    obtain ⟨b1, b2⟩ := Prod.mk.inj b
    obtain ⟨d1, d2⟩ := Prod.mk.inj d
    show some ((((fa.all fun f => f.ok (kL as (k s))) && fn.all fun d => d.ok (kL as (k s))), fn.map fun d => He.fnW (kL as (k s)) d.at_), (fc.map fun c => c (kL as (k s))), (fs.map fun d => fnS (kL as (k s)) d.x), gs.map (fnGx (kL as (k s)))) = some (((true : Bool), fn.map He.DefD.val), (fc.map fun _ => true), fs.map SupX.val, gs.map GetX.val)
    rw [a, b1, b2, c, d1, d2]
    rfl
end Cy
namespace Lw
open PySem PySem.Spec PyProof.Rows L2 Cy
def top (i : Nat) : Stmt := PySem.Challenge.pw_carrylog_k56_whole_lazy_edge.main.body.getD i (.Pass ⟨0, 0, 0, 0⟩)
def d0 : He.DefD := ⟨("_wall", none), "_wall", "_wall", defArgs (top 0), defBody (top 0), defScope (top 0), [], []⟩ -- _wall
def s0 : SupX := ⟨"InvalidInput", "InvalidInput.__init__", defArgs (inClass (top 3) 0), defBody (inClass (top 3) 0), defScope (inClass (top 3) 0)⟩
def s1 : SupX := ⟨"NoPlace", "NoPlace.__init__", defArgs (inClass (top 4) 0), defBody (inClass (top 4) 0), defScope (inClass (top 4) 0)⟩
def d1 : He.DefD := ⟨("at_least", none), "at_least", "at_least", defArgs (top 6), defBody (top 6), defScope (top 6), [], []⟩ -- at_least
def d2 : He.DefD := ⟨("at_most", none), "at_most", "at_most", defArgs (top 7), defBody (top 7), defScope (top 7), [], []⟩ -- at_most
def d3 : He.DefD := ⟨("whole_number", none), "whole_number", "whole_number", defArgs (top 8), defBody (top 8), defScope (top 8), [], []⟩ -- whole_number
def d4 : He.DefD := ⟨("good_word", none), "good_word", "good_word", defArgs (top 9), defBody (top 9), defScope (top 9), [], []⟩ -- good_word
def d5 : He.DefD := ⟨("living", none), "living", "living", defArgs (top 11), defBody (top 11), defScope (top 11), [], []⟩ -- living
def d6 : He.DefD := ⟨("release", none), "release", "release", defArgs (top 12), defBody (top 12), defScope (top 12), [], []⟩ -- release
def d7 : He.DefD := ⟨("carries", none), "carries", "carries", defArgs (top 13), defBody (top 13), defScope (top 13), [], []⟩ -- carries
def d8 : He.DefD := ⟨("append_record", none), "append_record", "append_record", defArgs (top 14), defBody (top 14), defScope (top 14), [.str "1"], []⟩ -- append_record
def d9 : He.DefD := ⟨("_trimmed", none), "_trimmed", "_trimmed", defArgs (top 15), defBody (top 15), defScope (top 15), [], []⟩ -- _trimmed
def d10 : He.DefD := ⟨("_ones", none), "_ones", "_ones", defArgs (top 16), defBody (top 16), defScope (top 16), [], []⟩ -- _ones
def d11 : He.DefD := ⟨("_depth_list", none), "_depth_list", "_depth_list", defArgs (top 17), defBody (top 17), defScope (top 17), [], []⟩ -- _depth_list
def d12 : He.DefD := ⟨("_released", none), "_released", "_released", defArgs (top 18), defBody (top 18), defScope (top 18), [], []⟩ -- _released
def d13 : He.DefD := ⟨("_carried", none), "_carried", "_carried", defArgs (top 19), defBody (top 19), defScope (top 19), [], []⟩ -- _carried
def d14 : He.DefD := ⟨("_carried_often", none), "_carried_often", "_carried_often", defArgs (top 20), defBody (top 20), defScope (top 20), [], []⟩ -- _carried_often
def d15 : He.DefD := ⟨("_appended", none), "_appended", "_appended", defArgs (top 21), defBody (top 21), defScope (top 21), [], []⟩ -- _appended
def d16 : He.DefD := ⟨("_check_terms", none), "_check_terms", "_check_terms", defArgs (top 23), defBody (top 23), defScope (top 23), [], []⟩ -- _check_terms
def d17 : He.DefD := ⟨("_possible_moves", none), "_possible_moves", "_possible_moves", defArgs (top 24), defBody (top 24), defScope (top 24), [], []⟩ -- _possible_moves
def d18 : He.DefD := ⟨("_after_put", none), "_after_put", "_after_put", defArgs (top 25), defBody (top 25), defScope (top 25), [], []⟩ -- _after_put
def d19 : He.DefD := ⟨("run_row", none), "run_row", "run_row", defArgs (top 26), defBody (top 26), defScope (top 26), [], []⟩ -- run_row
def d20 : He.DefD := ⟨("_search", none), "_search", "_search", defArgs (top 27), defBody (top 27), defScope (top 27), [], []⟩ -- _search
def d21 : He.DefD := ⟨("worst_row", none), "worst_row", "worst_row", defArgs (top 28), defBody (top 28), defScope (top 28), [], []⟩ -- worst_row
def d22 : He.DefD := ⟨("_check_moment", none), "_check_moment", "_check_moment", defArgs (top 30), defBody (top 30), defScope (top 30), [], []⟩ -- _check_moment
def d23 : He.DefD := ⟨("_most_allowed", none), "_most_allowed", "_most_allowed", defArgs (top 31), defBody (top 31), defScope (top 31), [], []⟩ -- _most_allowed
def d24 : He.DefD := ⟨("Keeper", some "choose"), "choose", "Keeper.choose", defArgs (inClass (top 32) 0), defBody (inClass (top 32) 0), defScope (inClass (top 32) 0), [], []⟩ -- Keeper.choose
def d25 : He.DefD := ⟨("Keeper", some "label"), "label", "Keeper.label", defArgs (inClass (top 32) 1), defBody (inClass (top 32) 1), defScope (inClass (top 32) 1), [], []⟩ -- Keeper.label
def d26 : He.DefD := ⟨("Lazy", some "__init__"), "__init__", "Lazy.__init__", defArgs (inClass (top 33) 0), defBody (inClass (top 33) 0), defScope (inClass (top 33) 0), [], []⟩ -- Lazy.__init__
def d27 : He.DefD := ⟨("Lazy", some "set_mark"), "set_mark", "Lazy.set_mark", defArgs (inClass (top 33) 3), defBody (inClass (top 33) 3), defScope (inClass (top 33) 3), [], []⟩ -- Lazy.set_mark
def d28 : He.DefD := ⟨("Lazy", some "choose"), "choose", "Lazy.choose", defArgs (inClass (top 33) 4), defBody (inClass (top 33) 4), defScope (inClass (top 33) 4), [], []⟩ -- Lazy.choose
def d29 : He.DefD := ⟨("Lazy", some "label"), "label", "Lazy.label", defArgs (inClass (top 33) 5), defBody (inClass (top 33) 5), defScope (inClass (top 33) 5), [], []⟩ -- Lazy.label
def d30 : He.DefD := ⟨("Round", some "__init__"), "__init__", "Round.__init__", defArgs (inClass (top 35) 1), defBody (inClass (top 35) 1), defScope (inClass (top 35) 1), [], []⟩ -- Round.__init__
def d31 : He.DefD := ⟨("Round", some "__len__"), "__len__", "Round.__len__", defArgs (inClass (top 35) 4), defBody (inClass (top 35) 4), defScope (inClass (top 35) 4), [], []⟩ -- Round.__len__
def d32 : He.DefD := ⟨("Round", some "__eq__"), "__eq__", "Round.__eq__", defArgs (inClass (top 35) 5), defBody (inClass (top 35) 5), defScope (inClass (top 35) 5), [], []⟩ -- Round.__eq__
def d33 : He.DefD := ⟨("Round", some "__add__"), "__add__", "Round.__add__", defArgs (inClass (top 35) 6), defBody (inClass (top 35) 6), defScope (inClass (top 35) 6), [], []⟩ -- Round.__add__
def d34 : He.DefD := ⟨("Round", some "at"), "at", "Round.at", defArgs (inClass (top 35) 7), defBody (inClass (top 35) 7), defScope (inClass (top 35) 7), [], []⟩ -- Round.at
def d35 : He.DefD := ⟨("Round", some "shifted"), "shifted", "Round.shifted", defArgs (inClass (top 35) 8), defBody (inClass (top 35) 8), defScope (inClass (top 35) 8), [], []⟩ -- Round.shifted
def d36 : He.DefD := ⟨("Round", some "total"), "total", "Round.total", defArgs (inClass (top 35) 9), defBody (inClass (top 35) 9), defScope (inClass (top 35) 9), [], []⟩ -- Round.total
def d37 : He.DefD := ⟨("Round", some "least"), "least", "Round.least", defArgs (inClass (top 35) 10), defBody (inClass (top 35) 10), defScope (inClass (top 35) 10), [], []⟩ -- Round.least
def d38 : He.DefD := ⟨("Round", some "worst_start"), "worst_start", "Round.worst_start", defArgs (inClass (top 35) 11), defBody (inClass (top 35) 11), defScope (inClass (top 35) 11), [], []⟩ -- Round.worst_start
def d39 : He.DefD := ⟨("Round", some "reach"), "reach", "Round.reach", defArgs (inClass (top 35) 12), defBody (inClass (top 35) 12), defScope (inClass (top 35) 12), [], []⟩ -- Round.reach
def d40 : He.DefD := ⟨("Round", some "_window"), "_window", "Round._window", defArgs (inClass (top 35) 13), defBody (inClass (top 35) 13), defScope (inClass (top 35) 13), [], []⟩ -- Round._window
def d41 : He.DefD := ⟨("Round", some "_windows"), "_windows", "Round._windows", defArgs (inClass (top 35) 14), defBody (inClass (top 35) 14), defScope (inClass (top 35) 14), [], []⟩ -- Round._windows
def d42 : He.DefD := ⟨("effective", none), "effective", "effective", defArgs (top 37), defBody (top 37), defScope (top 37), [], [("late", .bl false), ("tears", .int 0), ("readers", .int 0)]⟩ -- effective
def d43 : He.DefD := ⟨("ring_goes_on", none), "ring_goes_on", "ring_goes_on", defArgs (top 38), defBody (top 38), defScope (top 38), [], [("late", .bl false), ("tears", .int 0), ("readers", .int 0)]⟩ -- ring_goes_on
def d44 : He.DefD := ⟨("least_free", none), "least_free", "least_free", defArgs (top 39), defBody (top 39), defScope (top 39), [], []⟩ -- least_free
def d45 : He.DefD := ⟨("_check_order", none), "_check_order", "_check_order", defArgs (top 40), defBody (top 40), defScope (top 40), [], []⟩ -- _check_order
def d46 : He.DefD := ⟨("_lost_places", none), "_lost_places", "_lost_places", defArgs (top 41), defBody (top 41), defScope (top 41), [], []⟩ -- _lost_places
def d47 : He.DefD := ⟨("_law_is_count", none), "_law_is_count", "_law_is_count", defArgs (top 43), defBody (top 43), defScope (top 43), [], []⟩ -- _law_is_count
def d48 : He.DefD := ⟨("_law_box", none), "_law_box", "_law_box", defArgs (top 44), defBody (top 44), defScope (top 44), [], []⟩ -- _law_box
def d49 : He.DefD := ⟨("_law_take", none), "_law_take", "_law_take", defArgs (top 45), defBody (top 45), defScope (top 45), [], []⟩ -- _law_take
def d50 : He.DefD := ⟨("_law_round", none), "_law_round", "_law_round", defArgs (top 46), defBody (top 46), defScope (top 46), [], []⟩ -- _law_round
def d51 : He.DefD := ⟨("_law_freed", none), "_law_freed", "_law_freed", defArgs (top 47), defBody (top 47), defScope (top 47), [], []⟩ -- _law_freed
def d52 : He.DefD := ⟨("_law_carried", none), "_law_carried", "_law_carried", defArgs (top 48), defBody (top 48), defScope (top 48), [], []⟩ -- _law_carried
def d53 : He.DefD := ⟨("_law_amount", none), "_law_amount", "_law_amount", defArgs (top 49), defBody (top 49), defScope (top 49), [], []⟩ -- _law_amount
def d54 : He.DefD := ⟨("_law_play", none), "_law_play", "_law_play", defArgs (top 50), defBody (top 50), defScope (top 50), [], []⟩ -- _law_play
def d55 : He.DefD := ⟨("_law_is_row", none), "_law_is_row", "_law_is_row", defArgs (top 51), defBody (top 51), defScope (top 51), [], []⟩ -- _law_is_row
def d56 : He.DefD := ⟨("_law_pays", none), "_law_pays", "_law_pays", defArgs (top 52), defBody (top 52), defScope (top 52), [], []⟩ -- _law_pays
def d57 : He.DefD := ⟨("_law_reaches", none), "_law_reaches", "_law_reaches", defArgs (top 53), defBody (top 53), defScope (top 53), [], []⟩ -- _law_reaches
def d58 : He.DefD := ⟨("_law_need", none), "_law_need", "_law_need", defArgs (top 54), defBody (top 54), defScope (top 54), [], []⟩ -- _law_need
def d59 : He.DefD := ⟨("_law_goes", none), "_law_goes", "_law_goes", defArgs (top 55), defBody (top 55), defScope (top 55), [], []⟩ -- _law_goes
def d60 : He.DefD := ⟨("_law_raised", none), "_law_raised", "_law_raised", defArgs (top 56), defBody (top 56), defScope (top 56), [], []⟩ -- _law_raised
def d61 : He.DefD := ⟨("_law_levels", none), "_law_levels", "_law_levels", defArgs (top 57), defBody (top 57), defScope (top 57), [], []⟩ -- _law_levels
def d62 : He.DefD := ⟨("_law_edge", none), "_law_edge", "_law_edge", defArgs (top 58), defBody (top 58), defScope (top 58), [], []⟩ -- _law_edge
def d63 : He.DefD := ⟨("_law_judged", none), "_law_judged", "_law_judged", defArgs (top 59), defBody (top 59), defScope (top 59), [], []⟩ -- _law_judged
def d64 : He.DefD := ⟨("_law_small", none), "_law_small", "_law_small", defArgs (top 60), defBody (top 60), defScope (top 60), [], []⟩ -- _law_small
def d65 : He.DefD := ⟨("_law_stall_row", none), "_law_stall_row", "_law_stall_row", defArgs (top 61), defBody (top 61), defScope (top 61), [], []⟩ -- _law_stall_row
def d66 : He.DefD := ⟨("_law_moves", none), "_law_moves", "_law_moves", defArgs (top 62), defBody (top 62), defScope (top 62), [], []⟩ -- _law_moves
def d67 : He.DefD := ⟨("_law_runs", none), "_law_runs", "_law_runs", defArgs (top 63), defBody (top 63), defScope (top 63), [], []⟩ -- _law_runs
def d68 : He.DefD := ⟨("_law_lower", none), "_law_lower", "_law_lower", defArgs (top 64), defBody (top 64), defScope (top 64), [], []⟩ -- _law_lower
def d69 : He.DefD := ⟨("_law_higher", none), "_law_higher", "_law_higher", defArgs (top 65), defBody (top 65), defScope (top 65), [], []⟩ -- _law_higher
def d70 : He.DefD := ⟨("_law_large", none), "_law_large", "_law_large", defArgs (top 66), defBody (top 66), defScope (top 66), [], []⟩ -- _law_large
def d71 : He.DefD := ⟨("law", none), "law", "law", defArgs (top 67), defBody (top 67), defScope (top 67), [], []⟩ -- law
def g0 : GetX := ⟨"Lazy", "mark", "Lazy.mark", defArgs (inClass (top 33) 1), defBody (inClass (top 33) 1), defScope (inClass (top 33) 1)⟩
def g1 : GetX := ⟨"Round", "budgets", "Round.budgets", defArgs (inClass (top 35) 3), defBody (inClass (top 35) 3), defScope (inClass (top 35) 3)⟩
def fn : List He.DefD := [d0, d1, d2, d3, d4, d5, d6, d7, d8, d9, d10, d11, d12, d13, d14, d15, d16, d17, d18, d19, d20, d21, d22, d23, d24, d25, d26, d27, d28, d29, d30, d31, d32, d33, d34, d35, d36, d37, d38, d39, d40, d41, d42, d43, d44, d45, d46, d47, d48, d49, d50, d51, d52, d53, d54, d55, d56, d57, d58, d59, d60, d61, d62, d63, d64, d65, d66, d67, d68, d69, d70, d71]
def fs : List SupX := [s0, s1]
def gs : List GetX := [g0, g1]
def fa0 : List He.Fa := [.glo "InvalidInput", .keep "InvalidInput", .glo "Keeper", .keep "Keeper", .glo "Lazy", .keep "Lazy", .glo "NoPlace", .keep "NoPlace", .glo "Round", .keep "Round", .glo "StoreError", .keep "StoreError", .glo "_after_put", .keep "_after_put", .glo "_appended", .keep "_appended", .glo "_carried", .keep "_carried", .glo "_carried_often", .keep "_carried_often"]
def fa1 : List He.Fa := [.glo "_check_moment", .keep "_check_moment", .glo "_check_order", .keep "_check_order", .glo "_check_terms", .keep "_check_terms", .glo "_depth_list", .keep "_depth_list", .glo "_law_amount", .keep "_law_amount", .glo "_law_box", .keep "_law_box", .glo "_law_carried", .keep "_law_carried", .glo "_law_edge", .keep "_law_edge", .glo "_law_freed", .keep "_law_freed", .glo "_law_goes", .keep "_law_goes"]
def fa2 : List He.Fa := [.glo "_law_higher", .keep "_law_higher", .glo "_law_is_count", .keep "_law_is_count", .glo "_law_is_row", .keep "_law_is_row", .glo "_law_judged", .keep "_law_judged", .glo "_law_large", .keep "_law_large", .glo "_law_levels", .keep "_law_levels", .glo "_law_lower", .keep "_law_lower", .glo "_law_moves", .keep "_law_moves", .glo "_law_need", .keep "_law_need", .glo "_law_pays", .keep "_law_pays"]
def fa3 : List He.Fa := [.glo "_law_play", .keep "_law_play", .glo "_law_raised", .keep "_law_raised", .glo "_law_reaches", .keep "_law_reaches", .glo "_law_round", .keep "_law_round", .glo "_law_runs", .keep "_law_runs", .glo "_law_small", .keep "_law_small", .glo "_law_stall_row", .keep "_law_stall_row", .glo "_law_take", .keep "_law_take", .glo "_lost_places", .keep "_lost_places", .glo "_most_allowed", .keep "_most_allowed"]
def fa4 : List He.Fa := [.glo "_ones", .keep "_ones", .glo "_possible_moves", .keep "_possible_moves", .glo "_released", .keep "_released", .glo "_search", .keep "_search", .glo "_trimmed", .keep "_trimmed", .glo "append_record", .keep "append_record", .glo "at_least", .keep "at_least", .glo "at_most", .keep "at_most", .glo "carries", .keep "carries", .glo "effective", .keep "effective"]
def fa5 : List He.Fa := [.glo "good_word", .keep "good_word", .glo "law", .keep "law", .glo "least_free", .keep "least_free", .glo "living", .keep "living", .glo "release", .keep "release", .glo "ring_goes_on", .keep "ring_goes_on", .glo "run_row", .keep "run_row", .glo "whole_number", .keep "whole_number", .glo "worst_row", .keep "worst_row", .free "abs", .free "bool"]
def fa6 : List He.Fa := [.free "divmod", .free "enumerate", .free "int", .free "isinstance", .free "len", .free "list", .free "max", .free "min", .free "range", .free "sum", .free "tuple", .cls "Keeper", .meth "Keeper" "choose", .meth "Keeper" "label", .cls "Lazy", .meth "Lazy" "set_mark", .meth "Lazy" "choose", .meth "Lazy" "label", .noat "Lazy" "_mark", .mkr "Lazy"]
def fa7 : List He.Fa := [.cls "Round", .meth "Round" "at", .meth "Round" "shifted", .meth "Round" "total", .meth "Round" "least", .meth "Round" "worst_start", .meth "Round" "reach", .meth "Round" "_window", .meth "Round" "_windows", .noat "Round" "_budgets", .mkr "Round", .noat "InvalidInput" "field", .exm "InvalidInput" "StoreError" true, .exm "InvalidInput" "InvalidInput" true, .exm "InvalidInput" "NoPlace" false, .noat "NoPlace" "length", .exm "NoPlace" "StoreError" true, .exm "NoPlace" "InvalidInput" false, .exm "NoPlace" "NoPlace" true]
def fa : List He.Fa := fa0 ++ fa1 ++ fa2 ++ fa3 ++ fa4 ++ fa5 ++ fa6 ++ fa7
def fc0 : List Chk := [tyB "Keeper", mkzB "Keeper", kitC "Keeper" "Keeper" true, kitC "Keeper" "Lazy" false, kitC "Keeper" "Round" false, tyB "Lazy", propB "Lazy" "mark", kitC "Lazy" "Keeper" true, kitC "Lazy" "Lazy" true, kitC "Lazy" "Round" false, tyB "Round", propB "Round" "budgets", dunB "Round" "__len__", dunB "Round" "__add__", selfB "Round", kitC "Round" "Keeper" false, kitC "Round" "Lazy" false, kitC "Round" "Round" true, cvalB "Round" "MOST" 12, oexB "InvalidInput"]
def fc1 : List Chk := [einB "InvalidInput", xfC "InvalidInput", excB "InvalidInput", supB "InvalidInput" "InvalidInput.__init__" PySem.Challenge.pw_carrylog_k56_whole_lazy_edge.main.file, kitC "InvalidInput" "StoreError" true, kitC "InvalidInput" "InvalidInput" true, kitC "InvalidInput" "NoPlace" false, kitT "InvalidInput" "ValueError" true, oexB "NoPlace", einB "NoPlace", xfC "NoPlace", excB "NoPlace", supB "NoPlace" "NoPlace.__init__" PySem.Challenge.pw_carrylog_k56_whole_lazy_edge.main.file, kitC "NoPlace" "StoreError" true, kitC "NoPlace" "InvalidInput" false, kitC "NoPlace" "NoPlace" true, kitT "NoPlace" "ValueError" true, getB "Lazy" "mark" "Lazy.mark", getB "Round" "budgets" "Round.budgets"]
def fc : List Chk := fc0 ++ fc1
end Lw
namespace Hd
open PySem PySem.Spec PyProof.Rows L2 Cy
def nm0 : List Str := ["_wall", "StoreError", "InvalidInput", "NoPlace", "at_least", "at_most", "whole_number", "good_word", "living", "release", "carries", "append_record", "_trimmed", "_ones", "_depth_list", "_released", "_carried", "_carried_often", "_appended", "_check_terms", "_possible_moves", "_after_put", "run_row", "_search", "worst_row", "_check_moment", "_most_allowed", "Keeper", "Lazy", "Round"]
def nm1 : List Str := ["effective", "ring_goes_on", "least_free", "_check_order", "_lost_places", "_law_is_count", "_law_box", "_law_take", "_law_round", "_law_freed", "_law_carried", "_law_amount", "_law_play", "_law_is_row", "_law_pays", "_law_reaches", "_law_need", "_law_goes", "_law_raised", "_law_levels", "_law_edge", "_law_judged", "_law_small", "_law_stall_row", "_law_moves", "_law_runs", "_law_lower", "_law_higher", "_law_large"]
def loose : List Str := nm0 ++ nm1
abbrev R : PySem.W.OpenRow := PySem.W.OpenLaw.row PySem.Challenge.rw_carrylog_k56_whole_lazy_edge
def asl : List Addr := [3, 6, 4, 21, 31, 53, 74, 83, 90, 97, 104, 111, 118, 125, 133, 140, 147, 152, 159, 166, 173, 180, 187, 194, 201, 208, 215, 222, 229, 236, 260, 319, 431, 443, 451, 458, 465, 472, 479, 484, 491, 498, 505, 512, 519, 526, 533, 540, 545, 552, 559, 566, 573, 580, 587, 594, 599, 606, 613, 620, 627, 634, 641, 0, 20, 30, 52, 73, 82, 89, 96, 103, 110, 117, 124, 132, 126, 139, 146, 151, 158, 165, 172, 179, 186, 193, 200, 207, 214, 221, 228, 235, 259, 318, 430, 442, 436, 450, 444, 457, 464, 471, 478, 483, 490, 497, 504, 511, 518, 525, 532, 539, 544, 551, 558, 565, 572, 579, 586, 593, 598, 605, 612, 619, 626, 633, 640, 15, 16, 17, 18, 19, 29, 32, 50, 51, 71, 72, 77, 78, 79, 80, 81, 84, 85, 86, 87, 88, 91, 92, 93, 94, 95, 98, 99, 100, 101, 102, 105, 106, 107, 108, 109, 112, 113, 114, 115, 116, 119, 120, 121, 122, 123, 127, 128, 129, 130, 131, 134, 135, 136, 137, 138, 141, 142, 143, 144, 145, 148, 149, 150, 153, 154, 155, 156, 157, 160, 161, 162, 163, 164, 167, 168, 169, 170, 171, 174, 175, 176, 177, 178, 181, 182, 183, 184, 185, 188, 189, 190, 191, 192, 195, 196, 197, 198, 199, 202, 203, 204, 205, 206, 209, 210, 211, 212, 213, 216, 217, 218, 219, 220, 223, 224, 225, 226, 227, 230, 231, 232, 233, 234, 250, 257, 258, 261, 262, 278, 295, 302, 309, 316, 317, 335, 344, 353, 360, 367, 374, 381, 388, 395, 402, 409, 416, 423, 428, 429, 432, 433, 437, 438, 439, 440, 441, 445, 446, 447, 448, 449, 452, 453, 454, 455, 456, 459, 460, 461, 462, 463, 466, 467, 468, 469, 470, 473, 474, 475, 476, 477, 480, 481, 482, 485, 486, 487, 488, 489, 492, 493, 494, 495, 496, 499, 500, 501, 502, 503, 506, 507, 508, 509, 510, 513, 514, 515, 516, 517, 520, 521, 522, 523, 524, 527, 528, 529, 530, 531, 534, 535, 536, 537, 538, 541, 542, 543, 546, 547, 548, 549, 550, 553, 554, 555, 556, 557, 560, 561, 562, 563, 564, 567, 568, 569, 570, 571, 574, 575, 576, 577, 578, 581, 582, 583, 584, 585, 588, 589, 590, 591, 592, 595, 596, 597, 600, 601, 602, 603, 604, 607, 608, 609, 610, 611, 614, 615, 616, 617, 618, 621, 622, 623, 624, 625, 628, 629, 630, 631, 632, 635, 636, 637, 638, 639, 49, 38, 70, 59, 249, 256, 277, 285, 294, 301, 308, 315, 334, 342, 343, 352, 359, 366, 373, 380, 387, 394, 401, 408, 415, 422, 427, 44, 45, 46, 47, 48, 65, 66, 67, 68, 69, 244, 245, 246, 247, 248, 251, 252, 253, 254, 255, 272, 273, 274, 275, 276, 284, 293, 296, 297, 298, 299, 300, 303, 304, 305, 306, 307, 310, 311, 312, 313, 314, 329, 330, 331, 332, 333, 341, 345, 351, 354, 355, 356, 357, 358, 361, 362, 363, 364, 365, 368, 369, 370, 371, 372, 375, 376, 377, 378, 379, 382, 383, 384, 385, 386, 389, 390, 391, 392, 393, 396, 397, 398, 399, 400, 403, 404, 405, 406, 407, 410, 411, 412, 413, 414, 417, 418, 419, 420, 421, 424, 425, 426, 279, 280, 281, 282, 283, 288, 289, 290, 291, 292, 336, 337, 338, 339, 340, 346, 347, 348, 349, 350, 2]
abbrev hk : PySem.W.Hook := hookL asl Lw.fa Lw.fn Lw.fc Lw.fs Lw.gs
def ob (s : PySem.W.SharedT) : AlC := obsCL asl Lw.fa Lw.fn Lw.fc Lw.fs Lw.gs (HandSHeadRun.getT s)
theorem ob_eq (s : PySem.W.SharedT) : ob s = hk.obs s.abs := obsCL_eq (HandSHeadRun.getT_eq s)
abbrev qv : Program := PySem.W.view R.prog [67]
noncomputable section
open PySem.Calls PySem.W
abbrev En (w : World) (os : OsState) := HandSHeadRun.endF (HandSHeadRun.stepQ (HandSHeadRun.denQ HandSHeadRun.tabQ) R.prog w) 40000 R.prog w os
abbrev kk (s : PySem.W.SharedT) : PySem.W.Frag := kL asl (HandSHeadRun.getT s)
set_option maxHeartbeats 0 in
theorem rA (w : World) (os : OsState) : (En w os).map (fun s => HandSHeadRun.looksF R.prog (boot_heap w.params) s.abs) = some (true) := by kernel_rfl
set_option maxHeartbeats 0 in
theorem rB (w : World) (os : OsState) : (En w os).map (fun s => HandSHeadRun.seenQ qv loose (importedModules R.prog.main.body) (fun s => PySem.W.xlAt qv [] s && PySem.W.recOk R.toRowW.records s) s.abs) = some (PySem.W.openGood qv loose) := by kernel_rfl
def fb0 : List He.Fa := Lw.fa0 ++ Lw.fa1 ++ Lw.fa2 ++ Lw.fa3
set_option maxHeartbeats 0 in
theorem rF0 (w : World) (os : OsState) : (En w os).map (fun s => fb0.all fun f => f.ok (kk s)) = some (true) := by kernel_rfl
def fb4 : List He.Fa := Lw.fa4 ++ Lw.fa5 ++ Lw.fa6 ++ Lw.fa7
set_option maxHeartbeats 0 in
theorem rF4 (w : World) (os : OsState) : (En w os).map (fun s => fb4.all fun f => f.ok (kk s)) = some (true) := by kernel_rfl
theorem fa_eq : Lw.fa = fb0 ++ fb4 := rfl
theorem rF (w : World) (os : OsState) : (En w os).map (fun s => Lw.fa.all fun f => f.ok (kk s)) = some true := by
  rw [fa_eq]
  exact mpF (rF0 w os) (rF4 w os)
def fn0 : List He.DefD := [Lw.d0, Lw.d1, Lw.d2, Lw.d3, Lw.d4, Lw.d5, Lw.d6, Lw.d7, Lw.d8, Lw.d9, Lw.d10, Lw.d11, Lw.d12, Lw.d13, Lw.d14, Lw.d15, Lw.d16, Lw.d17, Lw.d18, Lw.d19, Lw.d20, Lw.d21, Lw.d22, Lw.d23, Lw.d24, Lw.d25, Lw.d26, Lw.d27, Lw.d28, Lw.d29, Lw.d30, Lw.d31, Lw.d32, Lw.d33, Lw.d34, Lw.d35, Lw.d36, Lw.d37, Lw.d38, Lw.d39, Lw.d40, Lw.d41]
set_option maxHeartbeats 0 in
theorem rN0 (w : World) (os : OsState) : (En w os).map (fun s => (fn0.all (fun d => d.ok (kk s)), fn0.map fun d => He.fnW (kk s) d.at_)) = some ((true, fn0.map He.DefD.val)) := by kernel_rfl
def fn1 : List He.DefD := [Lw.d42, Lw.d43, Lw.d44, Lw.d45, Lw.d46, Lw.d47, Lw.d48, Lw.d49, Lw.d50, Lw.d51, Lw.d52, Lw.d53, Lw.d54, Lw.d55, Lw.d56, Lw.d57, Lw.d58, Lw.d59, Lw.d60, Lw.d61, Lw.d62, Lw.d63, Lw.d64, Lw.d65, Lw.d66, Lw.d67, Lw.d68, Lw.d69, Lw.d70, Lw.d71]
set_option maxHeartbeats 0 in
theorem rN1 (w : World) (os : OsState) : (En w os).map (fun s => (fn1.all (fun d => d.ok (kk s)), fn1.map fun d => He.fnW (kk s) d.at_)) = some ((true, fn1.map He.DefD.val)) := by kernel_rfl
theorem fn_eq : Lw.fn = fn0 ++ fn1 := rfl
theorem rN (w : World) (os : OsState) : (En w os).map (fun s => (Lw.fn.all (fun d => d.ok (kk s)), Lw.fn.map fun d => He.fnW (kk s) d.at_)) = some (true, Lw.fn.map He.DefD.val) := by
  rw [fn_eq]
  exact mpN (rN0 w os) (rN1 w os)
set_option maxHeartbeats 0 in
theorem rC0 (w : World) (os : OsState) : (En w os).map (fun s => Lw.fc0.map fun c => c (kk s)) = some (Lw.fc0.map fun _ => true) := by kernel_rfl
set_option maxHeartbeats 0 in
theorem rC1 (w : World) (os : OsState) : (En w os).map (fun s => Lw.fc1.map fun c => c (kk s)) = some (Lw.fc1.map fun _ => true) := by kernel_rfl
set_option maxHeartbeats 0 in
theorem rS (w : World) (os : OsState) : (En w os).map (fun s => (Lw.fs.map (fun d => fnS (kk s) d.x), Lw.gs.map (fnGx (kk s)))) = some ((Lw.fs.map SupX.val, Lw.gs.map GetX.val)) := by kernel_rfl
theorem run (w : World) : HandSHeadRun.RunEq R qv hk ob 40000 loose w := fun os => mp2 (rA w os) (mp2 (rB w os) (obsL_join (k := HandSHeadRun.getT) (rF w os) (rN w os) (mpApp (rC0 w os) (rC1 w os)) (rS w os)))
end
end Hd
namespace Tx
open PySem PySem.Spec PyProof.Rows L2 Cy
abbrev ls (z : Str) : List Nat := z.cps.toList
theorem ls_len (z : Str) : z.length = (ls z).length := by show z.cps.size = z.cps.toList.length; simp
theorem ls_app (a b : Str) : ls (a ++ b) = ls a ++ ls b := by
  show (a.cps ++ b.cps).toList = _
  simp
theorem ls_ext {a b : Str} (h : ls a = ls b) : a = b := by
  obtain ⟨⟨a⟩⟩ := a
  obtain ⟨⟨b⟩⟩ := b
  have h : a = b := h
  rw [h]
theorem cnt_count (c : Nat) : ∀ l : List Nat, cnt c l = (l.count c : Int)
  | [] => rfl
  | n :: r => by
    rw [cnt_cons, cnt_count c r, List.count_cons]
    by_cases h : n = c
    · subst h; simp; omega
    · have h2 : (n == c) = false := by simpa using h
      simp [h, h2]
theorem one_eq : ("1" : Str) = ⟨#[49]⟩ := by decide +kernel
theorem zero_eq : ("0" : Str) = ⟨#[48]⟩ := by decide +kernel
theorem zo_eq : ("01" : Str) = ⟨#[48, 49]⟩ := by decide +kernel
theorem e_eq : ("" : Str) = ⟨#[]⟩ := by decide +kernel
theorem count1 (z : Str) : Txt.count z "1" = ((ls z).count 49 : Int) := by rw [one_eq, count_cnt, cnt_count]
theorem takeWhile_drop (p : Nat → Bool) : ∀ l : List Nat, l.drop (l.takeWhile p).length = l.dropWhile p
  | [] => rfl
  | a :: r => by
    cases h : p a with
    | true => simp [List.takeWhile, List.dropWhile, h, takeWhile_drop p r]
    | false => simp [List.takeWhile, List.dropWhile, h]
theorem lstrip0 (z : Str) : ls (Txt.lstripChars z "0") = (ls z).dropWhile (· == 48) := by
  unfold Txt.lstripChars
  rw [PySem.W.stripBy_eq, zero_eq]
  show (z.cps.extract (z.cps.toList.takeWhile fun c => (#[48] : Array Nat).contains c).length z.length).toList = _
  have e : (fun c => (#[48] : Array Nat).contains c) = (fun c => c == 48) := by
    funext c
    rw [Bool.eq_iff_iff]
    simp
  rw [e]
  have h := takeWhile_drop (· == 48) z.cps.toList
  rw [← h]
  have : z.length = z.cps.toList.length := ls_len z
  rw [this]
  simp only [Array.toList_extract, List.extract]
  exact List.take_of_length_le (by simp)
theorem all_takeWhile {p : Nat → Bool} : ∀ {l : List Nat}, (∀ c ∈ l, p c = true) → l.takeWhile p = l
  | [], _ => rfl
  | a :: r, h => by
    have h1 := h a (List.mem_cons_self ..)
    simp [List.takeWhile, h1, all_takeWhile fun c hc => h c (List.mem_cons_of_mem _ hc)]
theorem takeWhile_le (p : Nat → Bool) : ∀ l : List Nat, (l.takeWhile p).length ≤ l.length
  | [] => Nat.le_refl _
  | a :: r => by
    have := takeWhile_le p r
    cases h : p a <;> simp [List.takeWhile, h]; omega
theorem takeWhile_lt {p : Nat → Bool} : ∀ {l : List Nat} {b : Nat}, b ∈ l → p b = false → (l.takeWhile p).length < l.length
  | a :: r, b, hb, hp => by
    cases h : p a with
    | false => simp [List.takeWhile, h]
    | true =>
      rcases List.mem_cons.mp hb with e | hb
      · rw [e, h] at hp; cases hp
      · have := takeWhile_lt hb hp
        simp [List.takeWhile, h]
        omega
theorem takeWhile_all {p : Nat → Bool} : ∀ {l : List Nat} {b : Nat}, b ∈ l.takeWhile p → p b = true
  | a :: r, b, h => by
    cases q : p a with
    | false => simp [List.takeWhile, q] at h
    | true =>
      simp only [List.takeWhile, q] at h
      rcases List.mem_cons.mp h with e | h
      · rw [e]; exact q
      · exact takeWhile_all h
def Bit (c : Nat) : Bool := c == 48 || c == 49
theorem strip01 (z : Str) : decide (Txt.stripChars z "01" = "") = (ls z).all Bit := by
  unfold Txt.stripChars
  rw [PySem.W.stripBy_eq, zo_eq]
  have e : (fun c => (#[48, 49] : Array Nat).contains c) = Bit := by
    funext c
    rw [Bool.eq_iff_iff]
    simp [Bit]
  show decide ((⟨z.cps.extract (z.cps.toList.takeWhile fun c => (#[48, 49] : Array Nat).contains c).length (z.length - ((z.cps.toList.drop (z.cps.toList.takeWhile fun c => (#[48, 49] : Array Nat).contains c).length).reverse.takeWhile fun c => (#[48, 49] : Array Nat).contains c).length)⟩ : Str) = "") = _
  rw [e, takeWhile_drop]
  have hn : z.length = z.cps.toList.length := ls_len z
  rw [hn]
  have hle := takeWhile_le Bit z.cps.toList
  have hsz : z.cps.size = z.cps.toList.length := by simp
  cases ha : (ls z).all Bit with
  | true =>
    have h1 : z.cps.toList.takeWhile Bit = z.cps.toList := all_takeWhile fun c hc => List.all_eq_true.mp ha c hc
    rw [decide_eq_true_eq, h1]
    refine ls_ext ?_
    show (z.cps.extract _ _).toList = _
    simp only [Array.toList_extract, List.extract, List.drop_length, List.take_nil]
    exact (by decide +kernel : ([] : List Nat) = ls "")
  | false =>
    rw [decide_eq_false_iff_not]
    intro q
    have q2 : (z.cps.extract (z.cps.toList.takeWhile Bit).length (z.cps.toList.length - ((z.cps.toList.dropWhile Bit).reverse.takeWhile Bit).length)).toList = [] := by
      have := congrArg ls q
      exact this.trans (by decide +kernel)
    have hl := congrArg List.length q2
    simp only [Array.toList_extract, List.extract, List.length_take, List.length_drop, List.length_nil] at hl
    have hdl : (z.cps.toList.dropWhile Bit).length = z.cps.toList.length - (z.cps.toList.takeWhile Bit).length := by rw [← takeWhile_drop, List.length_drop]
    have hb : ∃ b ∈ z.cps.toList.dropWhile Bit, Bit b = false := by
      have : ∃ b ∈ ls z, Bit b = false := by
        have := List.all_eq_false.mp ha
        obtain ⟨b, hb, hp⟩ := this
        exact ⟨b, hb, by simpa using hp⟩
      obtain ⟨b, hb, hp⟩ := this
      refine ⟨b, ?_, hp⟩
      have h3 : z.cps.toList = z.cps.toList.takeWhile Bit ++ z.cps.toList.dropWhile Bit := (List.takeWhile_append_dropWhile).symm
      rw [show ls z = z.cps.toList from rfl, h3] at hb
      rcases List.mem_append.mp hb with hb | hb
      · have := takeWhile_all hb
        rw [hp] at this; cases this
      · exact hb
    obtain ⟨b, hb, hp⟩ := hb
    have hlt := takeWhile_lt (p := Bit) (List.mem_reverse.mpr hb) hp
    rw [List.length_reverse] at hlt
    omega
theorem starts0 (z : Str) : Txt.startswith z "0" = ((ls z).head? == some 48) := by
  unfold Txt.startswith
  rw [zero_eq]
  obtain ⟨⟨l⟩⟩ := z
  cases l with
  | nil => rfl
  | cons a r =>
    have e1 : Builtin.Str.subAt ⟨⟨a :: r⟩⟩ ⟨#[48]⟩ 0 = (a == 48) := by
      show ((⟨a :: r⟩ : Array Nat).extract 0 (0 + 1) == #[48]) = (a == 48)
      rw [Bool.eq_iff_iff]
      simp [List.extract]
    rw [e1]
    show (decide (0 + 1 ≤ (a :: r).length) && (a == 48)) = (some a == some 48)
    simp
def okL (l : List Nat) : Bool := !(l.head? == some 48) && l.all Bit
end Tx
namespace Lw
open PySem PySem.Spec PyProof.Rows L2 Cy
abbrev Top (g : Wd) : Prop := TopOf fa fn fc fs gs PySem.Challenge.pw_carrylog_k56_whole_lazy_edge g
theorem gf_InvalidInput {g : Wd} (T : Top g) : Gf g "InvalidInput" := T.gf 0 1
theorem gv_InvalidInput {g : Wd} (T : Top g) : ∃ u, g.mg "InvalidInput" = some u ∧ RelV (.ref (gad g.K "InvalidInput")) u := T.gv 0
theorem gf_Keeper {g : Wd} (T : Top g) : Gf g "Keeper" := T.gf 2 3
theorem gv_Keeper {g : Wd} (T : Top g) : ∃ u, g.mg "Keeper" = some u ∧ RelV (.ref (gad g.K "Keeper")) u := T.gv 2
theorem gf_Lazy {g : Wd} (T : Top g) : Gf g "Lazy" := T.gf 4 5
theorem gv_Lazy {g : Wd} (T : Top g) : ∃ u, g.mg "Lazy" = some u ∧ RelV (.ref (gad g.K "Lazy")) u := T.gv 4
theorem gf_NoPlace {g : Wd} (T : Top g) : Gf g "NoPlace" := T.gf 6 7
theorem gv_NoPlace {g : Wd} (T : Top g) : ∃ u, g.mg "NoPlace" = some u ∧ RelV (.ref (gad g.K "NoPlace")) u := T.gv 6
theorem gf_Round {g : Wd} (T : Top g) : Gf g "Round" := T.gf 8 9
theorem gv_Round {g : Wd} (T : Top g) : ∃ u, g.mg "Round" = some u ∧ RelV (.ref (gad g.K "Round")) u := T.gv 8
theorem gf_StoreError {g : Wd} (T : Top g) : Gf g "StoreError" := T.gf 10 11
theorem gv_StoreError {g : Wd} (T : Top g) : ∃ u, g.mg "StoreError" = some u ∧ RelV (.ref (gad g.K "StoreError")) u := T.gv 10
theorem gf__after_put {g : Wd} (T : Top g) : Gf g "_after_put" := T.gf 12 13
theorem gv__after_put {g : Wd} (T : Top g) : ∃ u, g.mg "_after_put" = some u ∧ RelV (.ref (gad g.K "_after_put")) u := T.gv 12
theorem gf__appended {g : Wd} (T : Top g) : Gf g "_appended" := T.gf 14 15
theorem gv__appended {g : Wd} (T : Top g) : ∃ u, g.mg "_appended" = some u ∧ RelV (.ref (gad g.K "_appended")) u := T.gv 14
theorem gf__carried {g : Wd} (T : Top g) : Gf g "_carried" := T.gf 16 17
theorem gv__carried {g : Wd} (T : Top g) : ∃ u, g.mg "_carried" = some u ∧ RelV (.ref (gad g.K "_carried")) u := T.gv 16
theorem gf__carried_often {g : Wd} (T : Top g) : Gf g "_carried_often" := T.gf 18 19
theorem gv__carried_often {g : Wd} (T : Top g) : ∃ u, g.mg "_carried_often" = some u ∧ RelV (.ref (gad g.K "_carried_often")) u := T.gv 18
theorem gf__check_moment {g : Wd} (T : Top g) : Gf g "_check_moment" := T.gf 20 21
theorem gv__check_moment {g : Wd} (T : Top g) : ∃ u, g.mg "_check_moment" = some u ∧ RelV (.ref (gad g.K "_check_moment")) u := T.gv 20
theorem gf__check_order {g : Wd} (T : Top g) : Gf g "_check_order" := T.gf 22 23
theorem gv__check_order {g : Wd} (T : Top g) : ∃ u, g.mg "_check_order" = some u ∧ RelV (.ref (gad g.K "_check_order")) u := T.gv 22
theorem gf__check_terms {g : Wd} (T : Top g) : Gf g "_check_terms" := T.gf 24 25
theorem gv__check_terms {g : Wd} (T : Top g) : ∃ u, g.mg "_check_terms" = some u ∧ RelV (.ref (gad g.K "_check_terms")) u := T.gv 24
theorem gf__depth_list {g : Wd} (T : Top g) : Gf g "_depth_list" := T.gf 26 27
theorem gv__depth_list {g : Wd} (T : Top g) : ∃ u, g.mg "_depth_list" = some u ∧ RelV (.ref (gad g.K "_depth_list")) u := T.gv 26
theorem gf__law_amount {g : Wd} (T : Top g) : Gf g "_law_amount" := T.gf 28 29
theorem gv__law_amount {g : Wd} (T : Top g) : ∃ u, g.mg "_law_amount" = some u ∧ RelV (.ref (gad g.K "_law_amount")) u := T.gv 28
theorem gf__law_box {g : Wd} (T : Top g) : Gf g "_law_box" := T.gf 30 31
theorem gv__law_box {g : Wd} (T : Top g) : ∃ u, g.mg "_law_box" = some u ∧ RelV (.ref (gad g.K "_law_box")) u := T.gv 30
theorem gf__law_carried {g : Wd} (T : Top g) : Gf g "_law_carried" := T.gf 32 33
theorem gv__law_carried {g : Wd} (T : Top g) : ∃ u, g.mg "_law_carried" = some u ∧ RelV (.ref (gad g.K "_law_carried")) u := T.gv 32
theorem gf__law_edge {g : Wd} (T : Top g) : Gf g "_law_edge" := T.gf 34 35
theorem gv__law_edge {g : Wd} (T : Top g) : ∃ u, g.mg "_law_edge" = some u ∧ RelV (.ref (gad g.K "_law_edge")) u := T.gv 34
theorem gf__law_freed {g : Wd} (T : Top g) : Gf g "_law_freed" := T.gf 36 37
theorem gv__law_freed {g : Wd} (T : Top g) : ∃ u, g.mg "_law_freed" = some u ∧ RelV (.ref (gad g.K "_law_freed")) u := T.gv 36
theorem gf__law_goes {g : Wd} (T : Top g) : Gf g "_law_goes" := T.gf 38 39
theorem gv__law_goes {g : Wd} (T : Top g) : ∃ u, g.mg "_law_goes" = some u ∧ RelV (.ref (gad g.K "_law_goes")) u := T.gv 38
theorem gf__law_higher {g : Wd} (T : Top g) : Gf g "_law_higher" := T.gf 40 41
theorem gv__law_higher {g : Wd} (T : Top g) : ∃ u, g.mg "_law_higher" = some u ∧ RelV (.ref (gad g.K "_law_higher")) u := T.gv 40
theorem gf__law_is_count {g : Wd} (T : Top g) : Gf g "_law_is_count" := T.gf 42 43
theorem gv__law_is_count {g : Wd} (T : Top g) : ∃ u, g.mg "_law_is_count" = some u ∧ RelV (.ref (gad g.K "_law_is_count")) u := T.gv 42
theorem gf__law_is_row {g : Wd} (T : Top g) : Gf g "_law_is_row" := T.gf 44 45
theorem gv__law_is_row {g : Wd} (T : Top g) : ∃ u, g.mg "_law_is_row" = some u ∧ RelV (.ref (gad g.K "_law_is_row")) u := T.gv 44
theorem gf__law_judged {g : Wd} (T : Top g) : Gf g "_law_judged" := T.gf 46 47
theorem gv__law_judged {g : Wd} (T : Top g) : ∃ u, g.mg "_law_judged" = some u ∧ RelV (.ref (gad g.K "_law_judged")) u := T.gv 46
theorem gf__law_large {g : Wd} (T : Top g) : Gf g "_law_large" := T.gf 48 49
theorem gv__law_large {g : Wd} (T : Top g) : ∃ u, g.mg "_law_large" = some u ∧ RelV (.ref (gad g.K "_law_large")) u := T.gv 48
theorem gf__law_levels {g : Wd} (T : Top g) : Gf g "_law_levels" := T.gf 50 51
theorem gv__law_levels {g : Wd} (T : Top g) : ∃ u, g.mg "_law_levels" = some u ∧ RelV (.ref (gad g.K "_law_levels")) u := T.gv 50
theorem gf__law_lower {g : Wd} (T : Top g) : Gf g "_law_lower" := T.gf 52 53
theorem gv__law_lower {g : Wd} (T : Top g) : ∃ u, g.mg "_law_lower" = some u ∧ RelV (.ref (gad g.K "_law_lower")) u := T.gv 52
theorem gf__law_moves {g : Wd} (T : Top g) : Gf g "_law_moves" := T.gf 54 55
theorem gv__law_moves {g : Wd} (T : Top g) : ∃ u, g.mg "_law_moves" = some u ∧ RelV (.ref (gad g.K "_law_moves")) u := T.gv 54
theorem gf__law_need {g : Wd} (T : Top g) : Gf g "_law_need" := T.gf 56 57
theorem gv__law_need {g : Wd} (T : Top g) : ∃ u, g.mg "_law_need" = some u ∧ RelV (.ref (gad g.K "_law_need")) u := T.gv 56
theorem gf__law_pays {g : Wd} (T : Top g) : Gf g "_law_pays" := T.gf 58 59
theorem gv__law_pays {g : Wd} (T : Top g) : ∃ u, g.mg "_law_pays" = some u ∧ RelV (.ref (gad g.K "_law_pays")) u := T.gv 58
theorem gf__law_play {g : Wd} (T : Top g) : Gf g "_law_play" := T.gf 60 61
theorem gv__law_play {g : Wd} (T : Top g) : ∃ u, g.mg "_law_play" = some u ∧ RelV (.ref (gad g.K "_law_play")) u := T.gv 60
theorem gf__law_raised {g : Wd} (T : Top g) : Gf g "_law_raised" := T.gf 62 63
theorem gv__law_raised {g : Wd} (T : Top g) : ∃ u, g.mg "_law_raised" = some u ∧ RelV (.ref (gad g.K "_law_raised")) u := T.gv 62
theorem gf__law_reaches {g : Wd} (T : Top g) : Gf g "_law_reaches" := T.gf 64 65
theorem gv__law_reaches {g : Wd} (T : Top g) : ∃ u, g.mg "_law_reaches" = some u ∧ RelV (.ref (gad g.K "_law_reaches")) u := T.gv 64
theorem gf__law_round {g : Wd} (T : Top g) : Gf g "_law_round" := T.gf 66 67
theorem gv__law_round {g : Wd} (T : Top g) : ∃ u, g.mg "_law_round" = some u ∧ RelV (.ref (gad g.K "_law_round")) u := T.gv 66
theorem gf__law_runs {g : Wd} (T : Top g) : Gf g "_law_runs" := T.gf 68 69
theorem gv__law_runs {g : Wd} (T : Top g) : ∃ u, g.mg "_law_runs" = some u ∧ RelV (.ref (gad g.K "_law_runs")) u := T.gv 68
theorem gf__law_small {g : Wd} (T : Top g) : Gf g "_law_small" := T.gf 70 71
theorem gv__law_small {g : Wd} (T : Top g) : ∃ u, g.mg "_law_small" = some u ∧ RelV (.ref (gad g.K "_law_small")) u := T.gv 70
theorem gf__law_stall_row {g : Wd} (T : Top g) : Gf g "_law_stall_row" := T.gf 72 73
theorem gv__law_stall_row {g : Wd} (T : Top g) : ∃ u, g.mg "_law_stall_row" = some u ∧ RelV (.ref (gad g.K "_law_stall_row")) u := T.gv 72
theorem gf__law_take {g : Wd} (T : Top g) : Gf g "_law_take" := T.gf 74 75
theorem gv__law_take {g : Wd} (T : Top g) : ∃ u, g.mg "_law_take" = some u ∧ RelV (.ref (gad g.K "_law_take")) u := T.gv 74
theorem gf__lost_places {g : Wd} (T : Top g) : Gf g "_lost_places" := T.gf 76 77
theorem gv__lost_places {g : Wd} (T : Top g) : ∃ u, g.mg "_lost_places" = some u ∧ RelV (.ref (gad g.K "_lost_places")) u := T.gv 76
theorem gf__most_allowed {g : Wd} (T : Top g) : Gf g "_most_allowed" := T.gf 78 79
theorem gv__most_allowed {g : Wd} (T : Top g) : ∃ u, g.mg "_most_allowed" = some u ∧ RelV (.ref (gad g.K "_most_allowed")) u := T.gv 78
theorem gf__ones {g : Wd} (T : Top g) : Gf g "_ones" := T.gf 80 81
theorem gv__ones {g : Wd} (T : Top g) : ∃ u, g.mg "_ones" = some u ∧ RelV (.ref (gad g.K "_ones")) u := T.gv 80
theorem gf__possible_moves {g : Wd} (T : Top g) : Gf g "_possible_moves" := T.gf 82 83
theorem gv__possible_moves {g : Wd} (T : Top g) : ∃ u, g.mg "_possible_moves" = some u ∧ RelV (.ref (gad g.K "_possible_moves")) u := T.gv 82
theorem gf__released {g : Wd} (T : Top g) : Gf g "_released" := T.gf 84 85
theorem gv__released {g : Wd} (T : Top g) : ∃ u, g.mg "_released" = some u ∧ RelV (.ref (gad g.K "_released")) u := T.gv 84
theorem gf__search {g : Wd} (T : Top g) : Gf g "_search" := T.gf 86 87
theorem gv__search {g : Wd} (T : Top g) : ∃ u, g.mg "_search" = some u ∧ RelV (.ref (gad g.K "_search")) u := T.gv 86
theorem gf__trimmed {g : Wd} (T : Top g) : Gf g "_trimmed" := T.gf 88 89
theorem gv__trimmed {g : Wd} (T : Top g) : ∃ u, g.mg "_trimmed" = some u ∧ RelV (.ref (gad g.K "_trimmed")) u := T.gv 88
theorem gf_append_record {g : Wd} (T : Top g) : Gf g "append_record" := T.gf 90 91
theorem gv_append_record {g : Wd} (T : Top g) : ∃ u, g.mg "append_record" = some u ∧ RelV (.ref (gad g.K "append_record")) u := T.gv 90
theorem gf_at_least {g : Wd} (T : Top g) : Gf g "at_least" := T.gf 92 93
theorem gv_at_least {g : Wd} (T : Top g) : ∃ u, g.mg "at_least" = some u ∧ RelV (.ref (gad g.K "at_least")) u := T.gv 92
theorem gf_at_most {g : Wd} (T : Top g) : Gf g "at_most" := T.gf 94 95
theorem gv_at_most {g : Wd} (T : Top g) : ∃ u, g.mg "at_most" = some u ∧ RelV (.ref (gad g.K "at_most")) u := T.gv 94
theorem gf_carries {g : Wd} (T : Top g) : Gf g "carries" := T.gf 96 97
theorem gv_carries {g : Wd} (T : Top g) : ∃ u, g.mg "carries" = some u ∧ RelV (.ref (gad g.K "carries")) u := T.gv 96
theorem gf_effective {g : Wd} (T : Top g) : Gf g "effective" := T.gf 98 99
theorem gv_effective {g : Wd} (T : Top g) : ∃ u, g.mg "effective" = some u ∧ RelV (.ref (gad g.K "effective")) u := T.gv 98
theorem gf_good_word {g : Wd} (T : Top g) : Gf g "good_word" := T.gf 100 101
theorem gv_good_word {g : Wd} (T : Top g) : ∃ u, g.mg "good_word" = some u ∧ RelV (.ref (gad g.K "good_word")) u := T.gv 100
theorem gf_law {g : Wd} (T : Top g) : Gf g "law" := T.gf 102 103
theorem gv_law {g : Wd} (T : Top g) : ∃ u, g.mg "law" = some u ∧ RelV (.ref (gad g.K "law")) u := T.gv 102
theorem gf_least_free {g : Wd} (T : Top g) : Gf g "least_free" := T.gf 104 105
theorem gv_least_free {g : Wd} (T : Top g) : ∃ u, g.mg "least_free" = some u ∧ RelV (.ref (gad g.K "least_free")) u := T.gv 104
theorem gf_living {g : Wd} (T : Top g) : Gf g "living" := T.gf 106 107
theorem gv_living {g : Wd} (T : Top g) : ∃ u, g.mg "living" = some u ∧ RelV (.ref (gad g.K "living")) u := T.gv 106
theorem gf_release {g : Wd} (T : Top g) : Gf g "release" := T.gf 108 109
theorem gv_release {g : Wd} (T : Top g) : ∃ u, g.mg "release" = some u ∧ RelV (.ref (gad g.K "release")) u := T.gv 108
theorem gf_ring_goes_on {g : Wd} (T : Top g) : Gf g "ring_goes_on" := T.gf 110 111
theorem gv_ring_goes_on {g : Wd} (T : Top g) : ∃ u, g.mg "ring_goes_on" = some u ∧ RelV (.ref (gad g.K "ring_goes_on")) u := T.gv 110
theorem gf_run_row {g : Wd} (T : Top g) : Gf g "run_row" := T.gf 112 113
theorem gv_run_row {g : Wd} (T : Top g) : ∃ u, g.mg "run_row" = some u ∧ RelV (.ref (gad g.K "run_row")) u := T.gv 112
theorem gf_whole_number {g : Wd} (T : Top g) : Gf g "whole_number" := T.gf 114 115
theorem gv_whole_number {g : Wd} (T : Top g) : ∃ u, g.mg "whole_number" = some u ∧ RelV (.ref (gad g.K "whole_number")) u := T.gv 114
theorem gf_worst_row {g : Wd} (T : Top g) : Gf g "worst_row" := T.gf 116 117
theorem gv_worst_row {g : Wd} (T : Top g) : ∃ u, g.mg "worst_row" = some u ∧ RelV (.ref (gad g.K "worst_row")) u := T.gv 116
theorem bl_abs {g : Wd} (T : Top g) : g.mg "abs" = none := T.blt 118
theorem bt_abs : bootBuiltins ("abs" : Str) = some (.builtin "abs") := by decide +kernel
theorem bl_bool {g : Wd} (T : Top g) : g.mg "bool" = none := T.blt 119
theorem bt_bool : bootBuiltins ("bool" : Str) = some (.type "bool") := by decide +kernel
theorem bl_divmod {g : Wd} (T : Top g) : g.mg "divmod" = none := T.blt 120
theorem bt_divmod : bootBuiltins ("divmod" : Str) = some (.builtin "divmod") := by decide +kernel
theorem bl_enumerate {g : Wd} (T : Top g) : g.mg "enumerate" = none := T.blt 121
theorem bt_enumerate : bootBuiltins ("enumerate" : Str) = some (.type "enumerate") := by decide +kernel
theorem bl_int {g : Wd} (T : Top g) : g.mg "int" = none := T.blt 122
theorem bt_int : bootBuiltins ("int" : Str) = some (.type "int") := by decide +kernel
theorem bl_isinstance {g : Wd} (T : Top g) : g.mg "isinstance" = none := T.blt 123
theorem bt_isinstance : bootBuiltins ("isinstance" : Str) = some (.builtin "isinstance") := by decide +kernel
theorem bl_len {g : Wd} (T : Top g) : g.mg "len" = none := T.blt 124
theorem bt_len : bootBuiltins ("len" : Str) = some (.builtin "len") := by decide +kernel
theorem bl_list {g : Wd} (T : Top g) : g.mg "list" = none := T.blt 125
theorem bt_list : bootBuiltins ("list" : Str) = some (.type "list") := by decide +kernel
theorem bl_max {g : Wd} (T : Top g) : g.mg "max" = none := T.blt 126
theorem bt_max : bootBuiltins ("max" : Str) = some (.builtin "max") := by decide +kernel
theorem bl_min {g : Wd} (T : Top g) : g.mg "min" = none := T.blt 127
theorem bt_min : bootBuiltins ("min" : Str) = some (.builtin "min") := by decide +kernel
theorem bl_range {g : Wd} (T : Top g) : g.mg "range" = none := T.blt 128
theorem bt_range : bootBuiltins ("range" : Str) = some (.type "range") := by decide +kernel
theorem bl_sum {g : Wd} (T : Top g) : g.mg "sum" = none := T.blt 129
theorem bt_sum : bootBuiltins ("sum" : Str) = some (.builtin "sum") := by decide +kernel
theorem bl_tuple {g : Wd} (T : Top g) : g.mg "tuple" = none := T.blt 130
theorem bt_tuple : bootBuiltins ("tuple" : Str) = some (.type "tuple") := by decide +kernel
theorem cl_Keeper {g : Wd} (T : Top g) : Cls g.K (gad g.K "Keeper") := T.cls 131
theorem ty_Keeper {g : Wd} (T : Top g) {H : Hp} {a dx : Addr} {fs : List (Str × V)} (e : H a = some (.ins (gad g.K "Keeper") dx fs)) : TyX g.K H (.ref a) (.ref (gad g.K "Keeper")) := tyB_ok (T.chk 0) (cl_Keeper T) e
theorem mt_Keeper_choose {g : Wd} (T : Top g) : Meth g.K (gad g.K "Keeper") "choose" (mad g.K (gad g.K "Keeper") "choose") := T.meth 132
theorem mt_Keeper_label {g : Wd} (T : Top g) : Meth g.K (gad g.K "Keeper") "label" (mad g.K (gad g.K "Keeper") "label") := T.meth 133
theorem mz_Keeper {g : Wd} (T : Top g) : MkZ g.K (gad g.K "Keeper") := mkzB_ok (T.chk 1)
theorem kt_Keeper_Keeper {g : Wd} (T : Top g) : PySem.W.kitOne g.K (.ref (gad g.K "Keeper")) (.ref (gad g.K "Keeper")) = some true := kitC_ok (T.chk 2)
theorem kt_Keeper_Lazy {g : Wd} (T : Top g) : PySem.W.kitOne g.K (.ref (gad g.K "Keeper")) (.ref (gad g.K "Lazy")) = some false := kitC_ok (T.chk 3)
theorem kt_Keeper_Round {g : Wd} (T : Top g) : PySem.W.kitOne g.K (.ref (gad g.K "Keeper")) (.ref (gad g.K "Round")) = some false := kitC_ok (T.chk 4)
theorem cl_Lazy {g : Wd} (T : Top g) : Cls g.K (gad g.K "Lazy") := T.cls 134
theorem ty_Lazy {g : Wd} (T : Top g) {H : Hp} {a dx : Addr} {fs : List (Str × V)} (e : H a = some (.ins (gad g.K "Lazy") dx fs)) : TyX g.K H (.ref a) (.ref (gad g.K "Lazy")) := tyB_ok (T.chk 5) (cl_Lazy T) e
theorem pr_Lazy_mark {g : Wd} (T : Top g) : PropOf g.K (gad g.K "Lazy") "mark" (pad g.K "Lazy" "mark") (pgt g.K "Lazy" "mark") := propB_ok (T.chk 6)
theorem mt_Lazy_set_mark {g : Wd} (T : Top g) : Meth g.K (gad g.K "Lazy") "set_mark" (mad g.K (gad g.K "Lazy") "set_mark") := T.meth 135
theorem mt_Lazy_choose {g : Wd} (T : Top g) : Meth g.K (gad g.K "Lazy") "choose" (mad g.K (gad g.K "Lazy") "choose") := T.meth 136
theorem mt_Lazy_label {g : Wd} (T : Top g) : Meth g.K (gad g.K "Lazy") "label" (mad g.K (gad g.K "Lazy") "label") := T.meth 137
theorem na_Lazy__mark {g : Wd} (T : Top g) : NoAttr g.K (gad g.K "Lazy") "_mark" := T.noat 138
theorem mk_Lazy {g : Wd} (T : Top g) : Mk g.K (gad g.K "Lazy") (mad g.K (gad g.K "Lazy") "__init__") := T.mkr 139
theorem kt_Lazy_Keeper {g : Wd} (T : Top g) : PySem.W.kitOne g.K (.ref (gad g.K "Lazy")) (.ref (gad g.K "Keeper")) = some true := kitC_ok (T.chk 7)
theorem kt_Lazy_Lazy {g : Wd} (T : Top g) : PySem.W.kitOne g.K (.ref (gad g.K "Lazy")) (.ref (gad g.K "Lazy")) = some true := kitC_ok (T.chk 8)
theorem kt_Lazy_Round {g : Wd} (T : Top g) : PySem.W.kitOne g.K (.ref (gad g.K "Lazy")) (.ref (gad g.K "Round")) = some false := kitC_ok (T.chk 9)
theorem cl_Round {g : Wd} (T : Top g) : Cls g.K (gad g.K "Round") := T.cls 140
theorem ty_Round {g : Wd} (T : Top g) {H : Hp} {a dx : Addr} {fs : List (Str × V)} (e : H a = some (.ins (gad g.K "Round") dx fs)) : TyX g.K H (.ref a) (.ref (gad g.K "Round")) := tyB_ok (T.chk 10) (cl_Round T) e
theorem pr_Round_budgets {g : Wd} (T : Top g) : PropOf g.K (gad g.K "Round") "budgets" (pad g.K "Round" "budgets") (pgt g.K "Round" "budgets") := propB_ok (T.chk 11)
theorem du_Round_len {g : Wd} (T : Top g) : PySem.W.findIn g.K (.ref (gad g.K "Round")) "__len__" = some (some (.ref (mad g.K (gad g.K "Round") "__len__"))) ∧ PySem.W.isFn g.K (.ref (mad g.K (gad g.K "Round") "__len__")) = true := dunB_ok (T.chk 12)
theorem du_Round_add {g : Wd} (T : Top g) : PySem.W.findIn g.K (.ref (gad g.K "Round")) "__add__" = some (some (.ref (mad g.K (gad g.K "Round") "__add__"))) ∧ PySem.W.isFn g.K (.ref (mad g.K (gad g.K "Round") "__add__")) = true := dunB_ok (T.chk 13)
theorem mt_Round_at {g : Wd} (T : Top g) : Meth g.K (gad g.K "Round") "at" (mad g.K (gad g.K "Round") "at") := T.meth 141
theorem mt_Round_shifted {g : Wd} (T : Top g) : Meth g.K (gad g.K "Round") "shifted" (mad g.K (gad g.K "Round") "shifted") := T.meth 142
theorem mt_Round_total {g : Wd} (T : Top g) : Meth g.K (gad g.K "Round") "total" (mad g.K (gad g.K "Round") "total") := T.meth 143
theorem mt_Round_least {g : Wd} (T : Top g) : Meth g.K (gad g.K "Round") "least" (mad g.K (gad g.K "Round") "least") := T.meth 144
theorem mt_Round_worst_start {g : Wd} (T : Top g) : Meth g.K (gad g.K "Round") "worst_start" (mad g.K (gad g.K "Round") "worst_start") := T.meth 145
theorem mt_Round_reach {g : Wd} (T : Top g) : Meth g.K (gad g.K "Round") "reach" (mad g.K (gad g.K "Round") "reach") := T.meth 146
theorem mt_Round__window {g : Wd} (T : Top g) : Meth g.K (gad g.K "Round") "_window" (mad g.K (gad g.K "Round") "_window") := T.meth 147
theorem mt_Round__windows {g : Wd} (T : Top g) : Meth g.K (gad g.K "Round") "_windows" (mad g.K (gad g.K "Round") "_windows") := T.meth 148
theorem na_Round__budgets {g : Wd} (T : Top g) : NoAttr g.K (gad g.K "Round") "_budgets" := T.noat 149
theorem mk_Round {g : Wd} (T : Top g) : Mk g.K (gad g.K "Round") (mad g.K (gad g.K "Round") "__init__") := T.mkr 150
theorem sf_Round {g : Wd} (T : Top g) : PySem.W.selfFirst g.K (gad g.K "Round") = true := T.chk 14 (c := selfB "Round")
theorem kt_Round_Keeper {g : Wd} (T : Top g) : PySem.W.kitOne g.K (.ref (gad g.K "Round")) (.ref (gad g.K "Keeper")) = some false := kitC_ok (T.chk 15)
theorem kt_Round_Lazy {g : Wd} (T : Top g) : PySem.W.kitOne g.K (.ref (gad g.K "Round")) (.ref (gad g.K "Lazy")) = some false := kitC_ok (T.chk 16)
theorem kt_Round_Round {g : Wd} (T : Top g) : PySem.W.kitOne g.K (.ref (gad g.K "Round")) (.ref (gad g.K "Round")) = some true := kitC_ok (T.chk 17)
theorem cvl_Round_MOST {g : Wd} (T : Top g) : ∃ u, ClX.CRead g.K (gad g.K "Round") (.type "type") ∧ ClX.CVal g.K (gad g.K "Round") (.type "type") "MOST" (.int 12) u := cvalB_ok (T.chk 18)
theorem ox_InvalidInput {g : Wd} (T : Top g) : OexC g.K (gad g.K "InvalidInput") := oexB_ok (T.chk 19)
theorem ei_InvalidInput {g : Wd} (T : Top g) : PySem.W.findIn g.K (.ref (gad g.K "InvalidInput")) "__init__" = some (some (.ref (mad g.K (gad g.K "InvalidInput") "__init__"))) ∧ PySem.W.typeIn g.K (.ref (mad g.K (gad g.K "InvalidInput") "__init__")) = some (.type "function") := einB_ok (T.chk 20)
theorem xf_InvalidInput {g : Wd} (T : Top g) : XfC g.K (gad g.K "InvalidInput") := xfC_ok (T.chk 21)
theorem ec_InvalidInput {g : Wd} (T : Top g) : ExcC g.K (gad g.K "InvalidInput") := excB_ok (T.chk 22)
theorem na_InvalidInput_field {g : Wd} (T : Top g) : NoAttr g.K (gad g.K "InvalidInput") "field" := T.noat 151
theorem su_InvalidInput {g : Wd} (T : Top g) : ∃ cc cdv, SupD g.P g.K (gad g.K "InvalidInput") (mad g.K (gad g.K "InvalidInput") "__init__") "__init__" s0.qual s0.params s0.body s0.scope cc cdv := T.sup 0 23 (d := s0) (file := PySem.Challenge.pw_carrylog_k56_whole_lazy_edge.main.file)
theorem kt_InvalidInput_StoreError {g : Wd} (T : Top g) : PySem.W.kitOne g.K (.ref (gad g.K "InvalidInput")) (.ref (gad g.K "StoreError")) = some true := kitC_ok (T.chk 24)
theorem kt_InvalidInput_InvalidInput {g : Wd} (T : Top g) : PySem.W.kitOne g.K (.ref (gad g.K "InvalidInput")) (.ref (gad g.K "InvalidInput")) = some true := kitC_ok (T.chk 25)
theorem kt_InvalidInput_NoPlace {g : Wd} (T : Top g) : PySem.W.kitOne g.K (.ref (gad g.K "InvalidInput")) (.ref (gad g.K "NoPlace")) = some false := kitC_ok (T.chk 26)
theorem em_InvalidInput_StoreError {g : Wd} (T : Top g) : PySem.W.exmOne g.K (.ref (gad g.K "InvalidInput")) (.ref (gad g.K "StoreError")) = some true := T.exm 152
theorem em_InvalidInput_InvalidInput {g : Wd} (T : Top g) : PySem.W.exmOne g.K (.ref (gad g.K "InvalidInput")) (.ref (gad g.K "InvalidInput")) = some true := T.exm 153
theorem em_InvalidInput_NoPlace {g : Wd} (T : Top g) : PySem.W.exmOne g.K (.ref (gad g.K "InvalidInput")) (.ref (gad g.K "NoPlace")) = some false := T.exm 154
theorem kv_InvalidInput {g : Wd} (T : Top g) : PySem.W.kitOne g.K (.ref (gad g.K "InvalidInput")) (.type "ValueError") = some true := kitT_ok (T.chk 27)
theorem ox_NoPlace {g : Wd} (T : Top g) : OexC g.K (gad g.K "NoPlace") := oexB_ok (T.chk 28)
theorem ei_NoPlace {g : Wd} (T : Top g) : PySem.W.findIn g.K (.ref (gad g.K "NoPlace")) "__init__" = some (some (.ref (mad g.K (gad g.K "NoPlace") "__init__"))) ∧ PySem.W.typeIn g.K (.ref (mad g.K (gad g.K "NoPlace") "__init__")) = some (.type "function") := einB_ok (T.chk 29)
theorem xf_NoPlace {g : Wd} (T : Top g) : XfC g.K (gad g.K "NoPlace") := xfC_ok (T.chk 30)
theorem ec_NoPlace {g : Wd} (T : Top g) : ExcC g.K (gad g.K "NoPlace") := excB_ok (T.chk 31)
theorem na_NoPlace_length {g : Wd} (T : Top g) : NoAttr g.K (gad g.K "NoPlace") "length" := T.noat 155
theorem su_NoPlace {g : Wd} (T : Top g) : ∃ cc cdv, SupD g.P g.K (gad g.K "NoPlace") (mad g.K (gad g.K "NoPlace") "__init__") "__init__" s1.qual s1.params s1.body s1.scope cc cdv := T.sup 1 32 (d := s1) (file := PySem.Challenge.pw_carrylog_k56_whole_lazy_edge.main.file)
theorem kt_NoPlace_StoreError {g : Wd} (T : Top g) : PySem.W.kitOne g.K (.ref (gad g.K "NoPlace")) (.ref (gad g.K "StoreError")) = some true := kitC_ok (T.chk 33)
theorem kt_NoPlace_InvalidInput {g : Wd} (T : Top g) : PySem.W.kitOne g.K (.ref (gad g.K "NoPlace")) (.ref (gad g.K "InvalidInput")) = some false := kitC_ok (T.chk 34)
theorem kt_NoPlace_NoPlace {g : Wd} (T : Top g) : PySem.W.kitOne g.K (.ref (gad g.K "NoPlace")) (.ref (gad g.K "NoPlace")) = some true := kitC_ok (T.chk 35)
theorem em_NoPlace_StoreError {g : Wd} (T : Top g) : PySem.W.exmOne g.K (.ref (gad g.K "NoPlace")) (.ref (gad g.K "StoreError")) = some true := T.exm 156
theorem em_NoPlace_InvalidInput {g : Wd} (T : Top g) : PySem.W.exmOne g.K (.ref (gad g.K "NoPlace")) (.ref (gad g.K "InvalidInput")) = some false := T.exm 157
theorem em_NoPlace_NoPlace {g : Wd} (T : Top g) : PySem.W.exmOne g.K (.ref (gad g.K "NoPlace")) (.ref (gad g.K "NoPlace")) = some true := T.exm 158
theorem kv_NoPlace {g : Wd} (T : Top g) : PySem.W.kitOne g.K (.ref (gad g.K "NoPlace")) (.type "ValueError") = some true := kitT_ok (T.chk 36)
theorem fd__wall {g : Wd} (T : Top g) : ∃ fd, FunD g.K d0.name d0.qual d0.params d0.body d0.scope (d0.dvs g.K) (d0.kws g.K) (He.fAd g.K d0.at_) fd := T.dat 0
theorem fd_at_least {g : Wd} (T : Top g) : ∃ fd, FunD g.K d1.name d1.qual d1.params d1.body d1.scope (d1.dvs g.K) (d1.kws g.K) (He.fAd g.K d1.at_) fd := T.dat 1
theorem fd_at_most {g : Wd} (T : Top g) : ∃ fd, FunD g.K d2.name d2.qual d2.params d2.body d2.scope (d2.dvs g.K) (d2.kws g.K) (He.fAd g.K d2.at_) fd := T.dat 2
theorem fd_whole_number {g : Wd} (T : Top g) : ∃ fd, FunD g.K d3.name d3.qual d3.params d3.body d3.scope (d3.dvs g.K) (d3.kws g.K) (He.fAd g.K d3.at_) fd := T.dat 3
theorem fd_good_word {g : Wd} (T : Top g) : ∃ fd, FunD g.K d4.name d4.qual d4.params d4.body d4.scope (d4.dvs g.K) (d4.kws g.K) (He.fAd g.K d4.at_) fd := T.dat 4
theorem fd_living {g : Wd} (T : Top g) : ∃ fd, FunD g.K d5.name d5.qual d5.params d5.body d5.scope (d5.dvs g.K) (d5.kws g.K) (He.fAd g.K d5.at_) fd := T.dat 5
theorem fd_release {g : Wd} (T : Top g) : ∃ fd, FunD g.K d6.name d6.qual d6.params d6.body d6.scope (d6.dvs g.K) (d6.kws g.K) (He.fAd g.K d6.at_) fd := T.dat 6
theorem fd_carries {g : Wd} (T : Top g) : ∃ fd, FunD g.K d7.name d7.qual d7.params d7.body d7.scope (d7.dvs g.K) (d7.kws g.K) (He.fAd g.K d7.at_) fd := T.dat 7
theorem fd_append_record {g : Wd} (T : Top g) : ∃ fd, FunD g.K d8.name d8.qual d8.params d8.body d8.scope (d8.dvs g.K) (d8.kws g.K) (He.fAd g.K d8.at_) fd := T.dat 8
theorem fd__trimmed {g : Wd} (T : Top g) : ∃ fd, FunD g.K d9.name d9.qual d9.params d9.body d9.scope (d9.dvs g.K) (d9.kws g.K) (He.fAd g.K d9.at_) fd := T.dat 9
theorem fd__ones {g : Wd} (T : Top g) : ∃ fd, FunD g.K d10.name d10.qual d10.params d10.body d10.scope (d10.dvs g.K) (d10.kws g.K) (He.fAd g.K d10.at_) fd := T.dat 10
theorem fd__depth_list {g : Wd} (T : Top g) : ∃ fd, FunD g.K d11.name d11.qual d11.params d11.body d11.scope (d11.dvs g.K) (d11.kws g.K) (He.fAd g.K d11.at_) fd := T.dat 11
theorem fd__released {g : Wd} (T : Top g) : ∃ fd, FunD g.K d12.name d12.qual d12.params d12.body d12.scope (d12.dvs g.K) (d12.kws g.K) (He.fAd g.K d12.at_) fd := T.dat 12
theorem fd__carried {g : Wd} (T : Top g) : ∃ fd, FunD g.K d13.name d13.qual d13.params d13.body d13.scope (d13.dvs g.K) (d13.kws g.K) (He.fAd g.K d13.at_) fd := T.dat 13
theorem fd__carried_often {g : Wd} (T : Top g) : ∃ fd, FunD g.K d14.name d14.qual d14.params d14.body d14.scope (d14.dvs g.K) (d14.kws g.K) (He.fAd g.K d14.at_) fd := T.dat 14
theorem fd__appended {g : Wd} (T : Top g) : ∃ fd, FunD g.K d15.name d15.qual d15.params d15.body d15.scope (d15.dvs g.K) (d15.kws g.K) (He.fAd g.K d15.at_) fd := T.dat 15
theorem fd__check_terms {g : Wd} (T : Top g) : ∃ fd, FunD g.K d16.name d16.qual d16.params d16.body d16.scope (d16.dvs g.K) (d16.kws g.K) (He.fAd g.K d16.at_) fd := T.dat 16
theorem fd__possible_moves {g : Wd} (T : Top g) : ∃ fd, FunD g.K d17.name d17.qual d17.params d17.body d17.scope (d17.dvs g.K) (d17.kws g.K) (He.fAd g.K d17.at_) fd := T.dat 17
theorem fd__after_put {g : Wd} (T : Top g) : ∃ fd, FunD g.K d18.name d18.qual d18.params d18.body d18.scope (d18.dvs g.K) (d18.kws g.K) (He.fAd g.K d18.at_) fd := T.dat 18
theorem fd_run_row {g : Wd} (T : Top g) : ∃ fd, FunD g.K d19.name d19.qual d19.params d19.body d19.scope (d19.dvs g.K) (d19.kws g.K) (He.fAd g.K d19.at_) fd := T.dat 19
theorem fd__search {g : Wd} (T : Top g) : ∃ fd, FunD g.K d20.name d20.qual d20.params d20.body d20.scope (d20.dvs g.K) (d20.kws g.K) (He.fAd g.K d20.at_) fd := T.dat 20
theorem fd_worst_row {g : Wd} (T : Top g) : ∃ fd, FunD g.K d21.name d21.qual d21.params d21.body d21.scope (d21.dvs g.K) (d21.kws g.K) (He.fAd g.K d21.at_) fd := T.dat 21
theorem fd__check_moment {g : Wd} (T : Top g) : ∃ fd, FunD g.K d22.name d22.qual d22.params d22.body d22.scope (d22.dvs g.K) (d22.kws g.K) (He.fAd g.K d22.at_) fd := T.dat 22
theorem fd__most_allowed {g : Wd} (T : Top g) : ∃ fd, FunD g.K d23.name d23.qual d23.params d23.body d23.scope (d23.dvs g.K) (d23.kws g.K) (He.fAd g.K d23.at_) fd := T.dat 23
theorem fd_Keeper_choose {g : Wd} (T : Top g) : ∃ fd, FunD g.K d24.name d24.qual d24.params d24.body d24.scope (d24.dvs g.K) (d24.kws g.K) (He.fAd g.K d24.at_) fd := T.dat 24
theorem fd_Keeper_label {g : Wd} (T : Top g) : ∃ fd, FunD g.K d25.name d25.qual d25.params d25.body d25.scope (d25.dvs g.K) (d25.kws g.K) (He.fAd g.K d25.at_) fd := T.dat 25
theorem fd_Lazy_init_ {g : Wd} (T : Top g) : ∃ fd, FunD g.K d26.name d26.qual d26.params d26.body d26.scope (d26.dvs g.K) (d26.kws g.K) (He.fAd g.K d26.at_) fd := T.dat 26
theorem fd_Lazy_set_mark {g : Wd} (T : Top g) : ∃ fd, FunD g.K d27.name d27.qual d27.params d27.body d27.scope (d27.dvs g.K) (d27.kws g.K) (He.fAd g.K d27.at_) fd := T.dat 27
theorem fd_Lazy_choose {g : Wd} (T : Top g) : ∃ fd, FunD g.K d28.name d28.qual d28.params d28.body d28.scope (d28.dvs g.K) (d28.kws g.K) (He.fAd g.K d28.at_) fd := T.dat 28
theorem fd_Lazy_label {g : Wd} (T : Top g) : ∃ fd, FunD g.K d29.name d29.qual d29.params d29.body d29.scope (d29.dvs g.K) (d29.kws g.K) (He.fAd g.K d29.at_) fd := T.dat 29
theorem fd_Round_init_ {g : Wd} (T : Top g) : ∃ fd, FunD g.K d30.name d30.qual d30.params d30.body d30.scope (d30.dvs g.K) (d30.kws g.K) (He.fAd g.K d30.at_) fd := T.dat 30
theorem fd_Round_len_ {g : Wd} (T : Top g) : ∃ fd, FunD g.K d31.name d31.qual d31.params d31.body d31.scope (d31.dvs g.K) (d31.kws g.K) (He.fAd g.K d31.at_) fd := T.dat 31
theorem fd_Round_eq_ {g : Wd} (T : Top g) : ∃ fd, FunD g.K d32.name d32.qual d32.params d32.body d32.scope (d32.dvs g.K) (d32.kws g.K) (He.fAd g.K d32.at_) fd := T.dat 32
theorem fd_Round_add_ {g : Wd} (T : Top g) : ∃ fd, FunD g.K d33.name d33.qual d33.params d33.body d33.scope (d33.dvs g.K) (d33.kws g.K) (He.fAd g.K d33.at_) fd := T.dat 33
theorem fd_Round_at {g : Wd} (T : Top g) : ∃ fd, FunD g.K d34.name d34.qual d34.params d34.body d34.scope (d34.dvs g.K) (d34.kws g.K) (He.fAd g.K d34.at_) fd := T.dat 34
theorem fd_Round_shifted {g : Wd} (T : Top g) : ∃ fd, FunD g.K d35.name d35.qual d35.params d35.body d35.scope (d35.dvs g.K) (d35.kws g.K) (He.fAd g.K d35.at_) fd := T.dat 35
theorem fd_Round_total {g : Wd} (T : Top g) : ∃ fd, FunD g.K d36.name d36.qual d36.params d36.body d36.scope (d36.dvs g.K) (d36.kws g.K) (He.fAd g.K d36.at_) fd := T.dat 36
theorem fd_Round_least {g : Wd} (T : Top g) : ∃ fd, FunD g.K d37.name d37.qual d37.params d37.body d37.scope (d37.dvs g.K) (d37.kws g.K) (He.fAd g.K d37.at_) fd := T.dat 37
theorem fd_Round_worst_start {g : Wd} (T : Top g) : ∃ fd, FunD g.K d38.name d38.qual d38.params d38.body d38.scope (d38.dvs g.K) (d38.kws g.K) (He.fAd g.K d38.at_) fd := T.dat 38
theorem fd_Round_reach {g : Wd} (T : Top g) : ∃ fd, FunD g.K d39.name d39.qual d39.params d39.body d39.scope (d39.dvs g.K) (d39.kws g.K) (He.fAd g.K d39.at_) fd := T.dat 39
theorem fd_Round__window {g : Wd} (T : Top g) : ∃ fd, FunD g.K d40.name d40.qual d40.params d40.body d40.scope (d40.dvs g.K) (d40.kws g.K) (He.fAd g.K d40.at_) fd := T.dat 40
theorem fd_Round__windows {g : Wd} (T : Top g) : ∃ fd, FunD g.K d41.name d41.qual d41.params d41.body d41.scope (d41.dvs g.K) (d41.kws g.K) (He.fAd g.K d41.at_) fd := T.dat 41
theorem fd_effective {g : Wd} (T : Top g) : ∃ fd, FunD g.K d42.name d42.qual d42.params d42.body d42.scope (d42.dvs g.K) (d42.kws g.K) (He.fAd g.K d42.at_) fd := T.dat 42
theorem fd_ring_goes_on {g : Wd} (T : Top g) : ∃ fd, FunD g.K d43.name d43.qual d43.params d43.body d43.scope (d43.dvs g.K) (d43.kws g.K) (He.fAd g.K d43.at_) fd := T.dat 43
theorem fd_least_free {g : Wd} (T : Top g) : ∃ fd, FunD g.K d44.name d44.qual d44.params d44.body d44.scope (d44.dvs g.K) (d44.kws g.K) (He.fAd g.K d44.at_) fd := T.dat 44
theorem fd__check_order {g : Wd} (T : Top g) : ∃ fd, FunD g.K d45.name d45.qual d45.params d45.body d45.scope (d45.dvs g.K) (d45.kws g.K) (He.fAd g.K d45.at_) fd := T.dat 45
theorem fd__lost_places {g : Wd} (T : Top g) : ∃ fd, FunD g.K d46.name d46.qual d46.params d46.body d46.scope (d46.dvs g.K) (d46.kws g.K) (He.fAd g.K d46.at_) fd := T.dat 46
theorem fd__law_is_count {g : Wd} (T : Top g) : ∃ fd, FunD g.K d47.name d47.qual d47.params d47.body d47.scope (d47.dvs g.K) (d47.kws g.K) (He.fAd g.K d47.at_) fd := T.dat 47
theorem fd__law_box {g : Wd} (T : Top g) : ∃ fd, FunD g.K d48.name d48.qual d48.params d48.body d48.scope (d48.dvs g.K) (d48.kws g.K) (He.fAd g.K d48.at_) fd := T.dat 48
theorem fd__law_take {g : Wd} (T : Top g) : ∃ fd, FunD g.K d49.name d49.qual d49.params d49.body d49.scope (d49.dvs g.K) (d49.kws g.K) (He.fAd g.K d49.at_) fd := T.dat 49
theorem fd__law_round {g : Wd} (T : Top g) : ∃ fd, FunD g.K d50.name d50.qual d50.params d50.body d50.scope (d50.dvs g.K) (d50.kws g.K) (He.fAd g.K d50.at_) fd := T.dat 50
theorem fd__law_freed {g : Wd} (T : Top g) : ∃ fd, FunD g.K d51.name d51.qual d51.params d51.body d51.scope (d51.dvs g.K) (d51.kws g.K) (He.fAd g.K d51.at_) fd := T.dat 51
theorem fd__law_carried {g : Wd} (T : Top g) : ∃ fd, FunD g.K d52.name d52.qual d52.params d52.body d52.scope (d52.dvs g.K) (d52.kws g.K) (He.fAd g.K d52.at_) fd := T.dat 52
theorem fd__law_amount {g : Wd} (T : Top g) : ∃ fd, FunD g.K d53.name d53.qual d53.params d53.body d53.scope (d53.dvs g.K) (d53.kws g.K) (He.fAd g.K d53.at_) fd := T.dat 53
theorem fd__law_play {g : Wd} (T : Top g) : ∃ fd, FunD g.K d54.name d54.qual d54.params d54.body d54.scope (d54.dvs g.K) (d54.kws g.K) (He.fAd g.K d54.at_) fd := T.dat 54
theorem fd__law_is_row {g : Wd} (T : Top g) : ∃ fd, FunD g.K d55.name d55.qual d55.params d55.body d55.scope (d55.dvs g.K) (d55.kws g.K) (He.fAd g.K d55.at_) fd := T.dat 55
theorem fd__law_pays {g : Wd} (T : Top g) : ∃ fd, FunD g.K d56.name d56.qual d56.params d56.body d56.scope (d56.dvs g.K) (d56.kws g.K) (He.fAd g.K d56.at_) fd := T.dat 56
theorem fd__law_reaches {g : Wd} (T : Top g) : ∃ fd, FunD g.K d57.name d57.qual d57.params d57.body d57.scope (d57.dvs g.K) (d57.kws g.K) (He.fAd g.K d57.at_) fd := T.dat 57
theorem fd__law_need {g : Wd} (T : Top g) : ∃ fd, FunD g.K d58.name d58.qual d58.params d58.body d58.scope (d58.dvs g.K) (d58.kws g.K) (He.fAd g.K d58.at_) fd := T.dat 58
theorem fd__law_goes {g : Wd} (T : Top g) : ∃ fd, FunD g.K d59.name d59.qual d59.params d59.body d59.scope (d59.dvs g.K) (d59.kws g.K) (He.fAd g.K d59.at_) fd := T.dat 59
theorem fd__law_raised {g : Wd} (T : Top g) : ∃ fd, FunD g.K d60.name d60.qual d60.params d60.body d60.scope (d60.dvs g.K) (d60.kws g.K) (He.fAd g.K d60.at_) fd := T.dat 60
theorem fd__law_levels {g : Wd} (T : Top g) : ∃ fd, FunD g.K d61.name d61.qual d61.params d61.body d61.scope (d61.dvs g.K) (d61.kws g.K) (He.fAd g.K d61.at_) fd := T.dat 61
theorem fd__law_edge {g : Wd} (T : Top g) : ∃ fd, FunD g.K d62.name d62.qual d62.params d62.body d62.scope (d62.dvs g.K) (d62.kws g.K) (He.fAd g.K d62.at_) fd := T.dat 62
theorem fd__law_judged {g : Wd} (T : Top g) : ∃ fd, FunD g.K d63.name d63.qual d63.params d63.body d63.scope (d63.dvs g.K) (d63.kws g.K) (He.fAd g.K d63.at_) fd := T.dat 63
theorem fd__law_small {g : Wd} (T : Top g) : ∃ fd, FunD g.K d64.name d64.qual d64.params d64.body d64.scope (d64.dvs g.K) (d64.kws g.K) (He.fAd g.K d64.at_) fd := T.dat 64
theorem fd__law_stall_row {g : Wd} (T : Top g) : ∃ fd, FunD g.K d65.name d65.qual d65.params d65.body d65.scope (d65.dvs g.K) (d65.kws g.K) (He.fAd g.K d65.at_) fd := T.dat 65
theorem fd__law_moves {g : Wd} (T : Top g) : ∃ fd, FunD g.K d66.name d66.qual d66.params d66.body d66.scope (d66.dvs g.K) (d66.kws g.K) (He.fAd g.K d66.at_) fd := T.dat 66
theorem fd__law_runs {g : Wd} (T : Top g) : ∃ fd, FunD g.K d67.name d67.qual d67.params d67.body d67.scope (d67.dvs g.K) (d67.kws g.K) (He.fAd g.K d67.at_) fd := T.dat 67
theorem fd__law_lower {g : Wd} (T : Top g) : ∃ fd, FunD g.K d68.name d68.qual d68.params d68.body d68.scope (d68.dvs g.K) (d68.kws g.K) (He.fAd g.K d68.at_) fd := T.dat 68
theorem fd__law_higher {g : Wd} (T : Top g) : ∃ fd, FunD g.K d69.name d69.qual d69.params d69.body d69.scope (d69.dvs g.K) (d69.kws g.K) (He.fAd g.K d69.at_) fd := T.dat 69
theorem fd__law_large {g : Wd} (T : Top g) : ∃ fd, FunD g.K d70.name d70.qual d70.params d70.body d70.scope (d70.dvs g.K) (d70.kws g.K) (He.fAd g.K d70.at_) fd := T.dat 70
theorem fd_law {g : Wd} (T : Top g) : ∃ fd, FunD g.K d71.name d71.qual d71.params d71.body d71.scope (d71.dvs g.K) (d71.kws g.K) (He.fAd g.K d71.at_) fd := T.dat 71
theorem fd_Lazy_mark {g : Wd} (T : Top g) : ∃ fd, FunD g.K g0.f g0.qual g0.params g0.body g0.scope [] [] (pgt g.K "Lazy" "mark") fd := T.get 0 37
theorem fd_Round_budgets {g : Wd} (T : Top g) : ∃ fd, FunD g.K g1.f g1.qual g1.params g1.body g1.scope [] [] (pgt g.K "Round" "budgets") fd := T.get 1 38
section
theorem sc_at_least : FnScope ["value", "least", "field"] ["value", "least", "field"] (defScope (top 6)) := ⟨rfl, rfl, rfl, by decide +kernel, rfl, by decide +kernel, by decide +kernel⟩
def rd_at_least (g : Wd) (j : Nat) (E : XK) : TS :=
  tIfS (cTest (tOp cLt (cV 0) (cV 1))) (cRaise (cRais g j (gad g.K "InvalidInput") (tCons (cV 2) (tNil))) (fun cls d _ H => E cls d H)) (tNext)
theorem dv_at_least {g : Wd} (T : Top g) {j : Nat} {f : Addr} {cdv : Value} {A : Around} {outer : List Env} {s : Shared} {H : Hp} {E : XK} (hr : Room (j + 1) (A.deeper (envOfC "at_least" (defScope (top 6)) s.heap.objs.size f cdv))) :
    PSs (cxOf (L2.CX g.P g.w) g.P g.w g.K g.mg g.base ["value", "least", "field"] "at_least" (defScope (top 6)) f cdv A outer s H E) (defBody (top 6)) (rd_at_least g j E) := by
  unfold rd_at_least
  exact (pss_one (ps_if (ptc op_cLt (cv 0) (cv 1) (nomark _)) (pss_one (ps_cRaise rfl (takes_of rfl rfl rfl rfl) (hr.mono (Nat.le_succ _)) (gf_InvalidInput T) (by rfl) (pa_cons (cv 2) pa_nil))) pss_nil))
theorem ok_at_least {g : Wd} (T : Top g) {fd : FuncData} (F : FunD g.K "at_least" "at_least" (defArgs (top 6)) (defBody (top 6)) (defScope (top 6)) [] [] (gad g.K "at_least") fd) {j : Nat} {sp : Sp} (h : ∀ vs H Q E, sp vs H Q E → vs.length = 3 ∧ rd_at_least g j E { nx := fun _ H1 => Q .non H1, rt := Q } (L2.start ["value", "least", "field"] vs) H) : FnOk g.P g.w g.K g.mg g.base (L2.CX g.P g.w) (j + 2) (gad g.K "at_least") fd ["value", "least", "field"] sp :=
  FunD.ok F sc_at_least (fun vs H Q E hh => (h vs H Q E hh).1) fun cdv A outer s H vs Q E hr hh => ⟨rd_at_least g j E, dv_at_least T hr, (h vs H Q E hh).2⟩
theorem fk_at_least {g : Wd} (T : Top g) (j : Nat) {sp : Sp} (h : ∀ vs H Q E, sp vs H Q E → vs.length = 3 ∧ rd_at_least g j E { nx := fun _ H1 => Q .non H1, rt := Q } (L2.start ["value", "least", "field"] vs) H) : FnG g (j + 2) (gad g.K "at_least") sp := by
  obtain ⟨fd, F⟩ := fd_at_least T
  exact fnG_of (ok_at_least T F h) (FunD.bindsN F fun _ _ _ _ _ _ us hl => match us, hl with | [_, _, _], _ => rfl)
theorem sc_at_most : FnScope ["value", "most", "field"] ["value", "most", "field"] (defScope (top 7)) := ⟨rfl, rfl, rfl, by decide +kernel, rfl, by decide +kernel, by decide +kernel⟩
def rd_at_most (g : Wd) (j : Nat) (E : XK) : TS :=
  tIfS (cTest (tOp cGt (cV 0) (cV 1))) (cRaise (cRais g j (gad g.K "InvalidInput") (tCons (cV 2) (tNil))) (fun cls d _ H => E cls d H)) (tNext)
theorem dv_at_most {g : Wd} (T : Top g) {j : Nat} {f : Addr} {cdv : Value} {A : Around} {outer : List Env} {s : Shared} {H : Hp} {E : XK} (hr : Room (j + 1) (A.deeper (envOfC "at_most" (defScope (top 7)) s.heap.objs.size f cdv))) :
    PSs (cxOf (L2.CX g.P g.w) g.P g.w g.K g.mg g.base ["value", "most", "field"] "at_most" (defScope (top 7)) f cdv A outer s H E) (defBody (top 7)) (rd_at_most g j E) := by
  unfold rd_at_most
  exact (pss_one (ps_if (ptc op_cGt (cv 0) (cv 1) (nomark _)) (pss_one (ps_cRaise rfl (takes_of rfl rfl rfl rfl) (hr.mono (Nat.le_succ _)) (gf_InvalidInput T) (by rfl) (pa_cons (cv 2) pa_nil))) pss_nil))
theorem ok_at_most {g : Wd} (T : Top g) {fd : FuncData} (F : FunD g.K "at_most" "at_most" (defArgs (top 7)) (defBody (top 7)) (defScope (top 7)) [] [] (gad g.K "at_most") fd) {j : Nat} {sp : Sp} (h : ∀ vs H Q E, sp vs H Q E → vs.length = 3 ∧ rd_at_most g j E { nx := fun _ H1 => Q .non H1, rt := Q } (L2.start ["value", "most", "field"] vs) H) : FnOk g.P g.w g.K g.mg g.base (L2.CX g.P g.w) (j + 2) (gad g.K "at_most") fd ["value", "most", "field"] sp :=
  FunD.ok F sc_at_most (fun vs H Q E hh => (h vs H Q E hh).1) fun cdv A outer s H vs Q E hr hh => ⟨rd_at_most g j E, dv_at_most T hr, (h vs H Q E hh).2⟩
theorem fk_at_most {g : Wd} (T : Top g) (j : Nat) {sp : Sp} (h : ∀ vs H Q E, sp vs H Q E → vs.length = 3 ∧ rd_at_most g j E { nx := fun _ H1 => Q .non H1, rt := Q } (L2.start ["value", "most", "field"] vs) H) : FnG g (j + 2) (gad g.K "at_most") sp := by
  obtain ⟨fd, F⟩ := fd_at_most T
  exact fnG_of (ok_at_most T F h) (FunD.bindsN F fun _ _ _ _ _ _ us hl => match us, hl with | [_, _, _], _ => rfl)
theorem sc_whole_number : FnScope ["value", "field"] ["value", "field"] (defScope (top 8)) := ⟨rfl, rfl, rfl, by decide +kernel, rfl, by decide +kernel, by decide +kernel⟩
def rd_whole_number (g : Wd) (j : Nat) (E : XK) : TS :=
  tIfS (tOr (cTru g.K (tCB (cIsi g.K) (tCons (cV 0) (tCons (tC (.ty "bool")) (tNil))))) (tNot (cTru g.K (tCB (cIsi g.K) (tCons (cV 0) (tCons (tC (.ty "int")) (tNil))))))) (cRaise (cRais g j (gad g.K "InvalidInput") (tCons (cV 1) (tNil))) (fun cls d _ H => E cls d H)) (tNext)
theorem dv_whole_number {g : Wd} (T : Top g) {j : Nat} {f : Addr} {cdv : Value} {A : Around} {outer : List Env} {s : Shared} {H : Hp} {E : XK} (hr : Room (j + 1) (A.deeper (envOfC "whole_number" (defScope (top 8)) s.heap.objs.size f cdv))) :
    PSs (cxOf (L2.CX g.P g.w) g.P g.w g.K g.mg g.base ["value", "field"] "whole_number" (defScope (top 8)) f cdv A outer s H E) (defBody (top 8)) (rd_whole_number g j E) := by
  unfold rd_whole_number
  exact (pss_one (ps_if (pw_or (ptv (pe_callB (call_cIsi) (by rfl) (bl_isinstance T) bt_isinstance (pa_cons (cv 0) (pa_cons (pe_bltn (v := .ty "bool") (by rfl) (bl_bool T) bt_bool (by rfl)) pa_nil)))) (pw_or1 (pt_not (ptv (pe_callB (call_cIsi) (by rfl) (bl_isinstance T) bt_isinstance (pa_cons (cv 0) (pa_cons (pe_bltn (v := .ty "int") (by rfl) (bl_int T) bt_int (by rfl)) pa_nil))))))).pt (pss_one (ps_cRaise rfl (takes_of rfl rfl rfl rfl) (hr.mono (Nat.le_succ _)) (gf_InvalidInput T) (by rfl) (pa_cons (cv 1) pa_nil))) pss_nil))
theorem ok_whole_number {g : Wd} (T : Top g) {fd : FuncData} (F : FunD g.K "whole_number" "whole_number" (defArgs (top 8)) (defBody (top 8)) (defScope (top 8)) [] [] (gad g.K "whole_number") fd) {j : Nat} {sp : Sp} (h : ∀ vs H Q E, sp vs H Q E → vs.length = 2 ∧ rd_whole_number g j E { nx := fun _ H1 => Q .non H1, rt := Q } (L2.start ["value", "field"] vs) H) : FnOk g.P g.w g.K g.mg g.base (L2.CX g.P g.w) (j + 2) (gad g.K "whole_number") fd ["value", "field"] sp :=
  FunD.ok F sc_whole_number (fun vs H Q E hh => (h vs H Q E hh).1) fun cdv A outer s H vs Q E hr hh => ⟨rd_whole_number g j E, dv_whole_number T hr, (h vs H Q E hh).2⟩
theorem fk_whole_number {g : Wd} (T : Top g) (j : Nat) {sp : Sp} (h : ∀ vs H Q E, sp vs H Q E → vs.length = 2 ∧ rd_whole_number g j E { nx := fun _ H1 => Q .non H1, rt := Q } (L2.start ["value", "field"] vs) H) : FnG g (j + 2) (gad g.K "whole_number") sp := by
  obtain ⟨fd, F⟩ := fd_whole_number T
  exact fnG_of (ok_whole_number T F h) (FunD.bindsN F fun _ _ _ _ _ _ us hl => match us, hl with | [_, _], _ => rfl)
theorem sc_good_word : FnScope ["word", "field"] ["word", "field"] (defScope (top 9)) := ⟨rfl, rfl, rfl, by decide +kernel, rfl, by decide +kernel, by decide +kernel⟩
def rd_good_word (g : Wd) (j : Nat) (E : XK) : TS :=
  tIfS (tOr (cTru g.K (cStrM mStartswith (cV 0) (tCons (tC (.str "0")) (tNil)))) (cTest (tOp (cEqN g.K true) (cStrM mStrip (cV 0) (tCons (tC (.str "01")) (tNil))) (tC (.str ""))))) (cRaise (cRais g j (gad g.K "InvalidInput") (tCons (cV 1) (tNil))) (fun cls d _ H => E cls d H)) (tNext)
theorem dv_good_word {g : Wd} (T : Top g) {j : Nat} {f : Addr} {cdv : Value} {A : Around} {outer : List Env} {s : Shared} {H : Hp} {E : XK} (hr : Room (j + 1) (A.deeper (envOfC "good_word" (defScope (top 9)) s.heap.objs.size f cdv))) :
    PSs (cxOf (L2.CX g.P g.w) g.P g.w g.K g.mg g.base ["word", "field"] "good_word" (defScope (top 9)) f cdv A outer s H E) (defBody (top 9)) (rd_good_word g j E) := by
  unfold rd_good_word
  exact (pss_one (ps_if (pw_or (ptv (pe_sm PySem.F.slot_str_startswith PySem.F.type_str_startswith m_startswith (cv 0) (pa_cons pe_str pa_nil))) (pw_or1 (ptc (op_cNe hr.units) (pe_sm PySem.F.slot_str_strip PySem.F.type_str_strip m_strip (cv 0) (pa_cons pe_str pa_nil)) pe_str (nomark _)))).pt (pss_one (ps_cRaise rfl (takes_of rfl rfl rfl rfl) (hr.mono (Nat.le_succ _)) (gf_InvalidInput T) (by rfl) (pa_cons (cv 1) pa_nil))) pss_nil))
theorem ok_good_word {g : Wd} (T : Top g) {fd : FuncData} (F : FunD g.K "good_word" "good_word" (defArgs (top 9)) (defBody (top 9)) (defScope (top 9)) [] [] (gad g.K "good_word") fd) {j : Nat} {sp : Sp} (h : ∀ vs H Q E, sp vs H Q E → vs.length = 2 ∧ rd_good_word g j E { nx := fun _ H1 => Q .non H1, rt := Q } (L2.start ["word", "field"] vs) H) : FnOk g.P g.w g.K g.mg g.base (L2.CX g.P g.w) (j + 2) (gad g.K "good_word") fd ["word", "field"] sp :=
  FunD.ok F sc_good_word (fun vs H Q E hh => (h vs H Q E hh).1) fun cdv A outer s H vs Q E hr hh => ⟨rd_good_word g j E, dv_good_word T hr, (h vs H Q E hh).2⟩
theorem fk_good_word {g : Wd} (T : Top g) (j : Nat) {sp : Sp} (h : ∀ vs H Q E, sp vs H Q E → vs.length = 2 ∧ rd_good_word g j E { nx := fun _ H1 => Q .non H1, rt := Q } (L2.start ["word", "field"] vs) H) : FnG g (j + 2) (gad g.K "good_word") sp := by
  obtain ⟨fd, F⟩ := fd_good_word T
  exact fnG_of (ok_good_word T F h) (FunD.bindsN F fun _ _ _ _ _ _ us hl => match us, hl with | [_, _], _ => rfl)
theorem sc_living : FnScope ["word"] ["word"] (defScope (top 11)) := ⟨rfl, rfl, rfl, by decide +kernel, rfl, by decide +kernel, by decide +kernel⟩
def rd_living (g : Wd) (j : Nat) (E : XK) : TS :=
  tSeq (tDrop (cCall g j (fun cls d _ H => E cls d H) (gad g.K "good_word") (tCons (cV 0) (tCons (tC (.str "word")) (tNil)))))
  (tRet (cCall g j (fun cls d _ H => E cls d H) (gad g.K "_ones") (tCons (cV 0) (tNil))))
theorem dv_living {g : Wd} (T : Top g) {j : Nat} {f : Addr} {cdv : Value} {A : Around} {outer : List Env} {s : Shared} {H : Hp} {E : XK} (hr : Room (j + 1) (A.deeper (envOfC "living" (defScope (top 11)) s.heap.objs.size f cdv))) :
    PSs (cxOf (L2.CX g.P g.w) g.P g.w g.K g.mg g.base ["word"] "living" (defScope (top 11)) f cdv A outer s H E) (defBody (top 11)) (rd_living g j E) := by
  unfold rd_living
  exact (pss_cons (ps_expr (pe_cCall (takes_of rfl rfl rfl rfl) (hr.mono (Nat.le_succ _)) (gf_good_word T) (by rfl) (pa_cons (cv 0) (pa_cons pe_str pa_nil))))
  (pss_one (ps_ret (pe_cCall (takes_of rfl rfl rfl rfl) (hr.mono (Nat.le_succ _)) (gf__ones T) (by rfl) (pa_cons (cv 0) pa_nil)))))
theorem ok_living {g : Wd} (T : Top g) {fd : FuncData} (F : FunD g.K "living" "living" (defArgs (top 11)) (defBody (top 11)) (defScope (top 11)) [] [] (gad g.K "living") fd) {j : Nat} {sp : Sp} (h : ∀ vs H Q E, sp vs H Q E → vs.length = 1 ∧ rd_living g j E { nx := fun _ H1 => Q .non H1, rt := Q } (L2.start ["word"] vs) H) : FnOk g.P g.w g.K g.mg g.base (L2.CX g.P g.w) (j + 2) (gad g.K "living") fd ["word"] sp :=
  FunD.ok F sc_living (fun vs H Q E hh => (h vs H Q E hh).1) fun cdv A outer s H vs Q E hr hh => ⟨rd_living g j E, dv_living T hr, (h vs H Q E hh).2⟩
theorem fk_living {g : Wd} (T : Top g) (j : Nat) {sp : Sp} (h : ∀ vs H Q E, sp vs H Q E → vs.length = 1 ∧ rd_living g j E { nx := fun _ H1 => Q .non H1, rt := Q } (L2.start ["word"] vs) H) : FnG g (j + 2) (gad g.K "living") sp := by
  obtain ⟨fd, F⟩ := fd_living T
  exact fnG_of (ok_living T F h) (FunD.bindsN F fun _ _ _ _ _ _ us hl => match us, hl with | [_], _ => rfl)
theorem sc_release : FnScope ["word", "index"] ["word", "index"] (defScope (top 12)) := ⟨rfl, rfl, rfl, by decide +kernel, rfl, by decide +kernel, by decide +kernel⟩
def rd_release (g : Wd) (j : Nat) (E : XK) : TS :=
  tSeq (tDrop (cCall g j (fun cls d _ H => E cls d H) (gad g.K "good_word") (tCons (cV 0) (tCons (tC (.str "word")) (tNil)))))
  (tSeq (tDrop (cCall g j (fun cls d _ H => E cls d H) (gad g.K "at_least") (tCons (cV 1) (tCons (tC (.int 0)) (tCons (tC (.str "index")) (tNil))))))
  (tSeq (tDrop (cCall g j (fun cls d _ H => E cls d H) (gad g.K "at_most") (tCons (cV 1) (tCons (tOp cSub (cCall g j (fun cls d _ H => E cls d H) (gad g.K "_ones") (tCons (cV 0) (tNil))) (tC (.int 1))) (tCons (tC (.str "index")) (tNil))))))
  (tRet (cCall g j (fun cls d _ H => E cls d H) (gad g.K "_released") (tCons (cV 0) (tCons (cV 1) (tNil)))))))
theorem dv_release {g : Wd} (T : Top g) {j : Nat} {f : Addr} {cdv : Value} {A : Around} {outer : List Env} {s : Shared} {H : Hp} {E : XK} (hr : Room (j + 1) (A.deeper (envOfC "release" (defScope (top 12)) s.heap.objs.size f cdv))) :
    PSs (cxOf (L2.CX g.P g.w) g.P g.w g.K g.mg g.base ["word", "index"] "release" (defScope (top 12)) f cdv A outer s H E) (defBody (top 12)) (rd_release g j E) := by
  unfold rd_release
  exact (pss_cons (ps_expr (pe_cCall (takes_of rfl rfl rfl rfl) (hr.mono (Nat.le_succ _)) (gf_good_word T) (by rfl) (pa_cons (cv 0) (pa_cons pe_str pa_nil))))
  (pss_cons (ps_expr (pe_cCall (takes_of rfl rfl rfl rfl) (hr.mono (Nat.le_succ _)) (gf_at_least T) (by rfl) (pa_cons (cv 1) (pa_cons pe_int (pa_cons pe_str pa_nil)))))
  (pss_cons (ps_expr (pe_cCall (takes_of rfl rfl rfl rfl) (hr.mono (Nat.le_succ _)) (gf_at_most T) (by rfl) (pa_cons (cv 1) (pa_cons (pe_op op_cSub (pe_cCall (takes_of rfl rfl rfl rfl) (hr.mono (Nat.le_succ _)) (gf__ones T) (by rfl) (pa_cons (cv 0) pa_nil)) pe_int) (pa_cons pe_str pa_nil)))))
  (pss_one (ps_ret (pe_cCall (takes_of rfl rfl rfl rfl) (hr.mono (Nat.le_succ _)) (gf__released T) (by rfl) (pa_cons (cv 0) (pa_cons (cv 1) pa_nil))))))))
theorem ok_release {g : Wd} (T : Top g) {fd : FuncData} (F : FunD g.K "release" "release" (defArgs (top 12)) (defBody (top 12)) (defScope (top 12)) [] [] (gad g.K "release") fd) {j : Nat} {sp : Sp} (h : ∀ vs H Q E, sp vs H Q E → vs.length = 2 ∧ rd_release g j E { nx := fun _ H1 => Q .non H1, rt := Q } (L2.start ["word", "index"] vs) H) : FnOk g.P g.w g.K g.mg g.base (L2.CX g.P g.w) (j + 2) (gad g.K "release") fd ["word", "index"] sp :=
  FunD.ok F sc_release (fun vs H Q E hh => (h vs H Q E hh).1) fun cdv A outer s H vs Q E hr hh => ⟨rd_release g j E, dv_release T hr, (h vs H Q E hh).2⟩
theorem fk_release {g : Wd} (T : Top g) (j : Nat) {sp : Sp} (h : ∀ vs H Q E, sp vs H Q E → vs.length = 2 ∧ rd_release g j E { nx := fun _ H1 => Q .non H1, rt := Q } (L2.start ["word", "index"] vs) H) : FnG g (j + 2) (gad g.K "release") sp := by
  obtain ⟨fd, F⟩ := fd_release T
  exact fnG_of (ok_release T F h) (FunD.bindsN F fun _ _ _ _ _ _ us hl => match us, hl with | [_, _], _ => rfl)
theorem sc_carries : FnScope ["word", "count", "places"] ["word", "count", "places"] (defScope (top 13)) := ⟨rfl, rfl, rfl, by decide +kernel, rfl, by decide +kernel, by decide +kernel⟩
def rd_carries (g : Wd) (j : Nat) (E : XK) : TS :=
  tSeq (tDrop (cCall g j (fun cls d _ H => E cls d H) (gad g.K "good_word") (tCons (cV 0) (tCons (tC (.str "word")) (tNil)))))
  (tSeq (tDrop (cCall g j (fun cls d _ H => E cls d H) (gad g.K "at_least") (tCons (cV 1) (tCons (tC (.int 0)) (tCons (tC (.str "count")) (tNil))))))
  (tSeq (tDrop (cCall g j (fun cls d _ H => E cls d H) (gad g.K "at_least") (tCons (cV 2) (tCons (tC (.int 1)) (tCons (tC (.str "places")) (tNil))))))
  (tSeq (tDrop (cCall g j (fun cls d _ H => E cls d H) (gad g.K "at_least") (tCons (cV 2) (tCons (tCB (cLen g j) (tCons (cV 0) (tNil))) (tCons (tC (.str "places")) (tNil))))))
  (tRet (cCall g j (fun cls d _ H => E cls d H) (gad g.K "_carried_often") (tCons (cV 0) (tCons (cV 1) (tCons (cV 2) (tNil)))))))))
theorem dv_carries {g : Wd} (T : Top g) {j : Nat} {f : Addr} {cdv : Value} {A : Around} {outer : List Env} {s : Shared} {H : Hp} {E : XK} (hr : Room (j + 1) (A.deeper (envOfC "carries" (defScope (top 13)) s.heap.objs.size f cdv))) :
    PSs (cxOf (L2.CX g.P g.w) g.P g.w g.K g.mg g.base ["word", "count", "places"] "carries" (defScope (top 13)) f cdv A outer s H E) (defBody (top 13)) (rd_carries g j E) := by
  unfold rd_carries
  exact (pss_cons (ps_expr (pe_cCall (takes_of rfl rfl rfl rfl) (hr.mono (Nat.le_succ _)) (gf_good_word T) (by rfl) (pa_cons (cv 0) (pa_cons pe_str pa_nil))))
  (pss_cons (ps_expr (pe_cCall (takes_of rfl rfl rfl rfl) (hr.mono (Nat.le_succ _)) (gf_at_least T) (by rfl) (pa_cons (cv 1) (pa_cons pe_int (pa_cons pe_str pa_nil)))))
  (pss_cons (ps_expr (pe_cCall (takes_of rfl rfl rfl rfl) (hr.mono (Nat.le_succ _)) (gf_at_least T) (by rfl) (pa_cons (cv 2) (pa_cons pe_int (pa_cons pe_str pa_nil)))))
  (pss_cons (ps_expr (pe_cCall (takes_of rfl rfl rfl rfl) (hr.mono (Nat.le_succ _)) (gf_at_least T) (by rfl) (pa_cons (cv 2) (pa_cons (pe_callB (call_cLen hr) (by rfl) (bl_len T) bt_len (pa_cons (cv 0) pa_nil)) (pa_cons pe_str pa_nil)))))
  (pss_one (ps_ret (pe_cCall (takes_of rfl rfl rfl rfl) (hr.mono (Nat.le_succ _)) (gf__carried_often T) (by rfl) (pa_cons (cv 0) (pa_cons (cv 1) (pa_cons (cv 2) pa_nil))))))))))
theorem ok_carries {g : Wd} (T : Top g) {fd : FuncData} (F : FunD g.K "carries" "carries" (defArgs (top 13)) (defBody (top 13)) (defScope (top 13)) [] [] (gad g.K "carries") fd) {j : Nat} {sp : Sp} (h : ∀ vs H Q E, sp vs H Q E → vs.length = 3 ∧ rd_carries g j E { nx := fun _ H1 => Q .non H1, rt := Q } (L2.start ["word", "count", "places"] vs) H) : FnOk g.P g.w g.K g.mg g.base (L2.CX g.P g.w) (j + 2) (gad g.K "carries") fd ["word", "count", "places"] sp :=
  FunD.ok F sc_carries (fun vs H Q E hh => (h vs H Q E hh).1) fun cdv A outer s H vs Q E hr hh => ⟨rd_carries g j E, dv_carries T hr, (h vs H Q E hh).2⟩
theorem fk_carries {g : Wd} (T : Top g) (j : Nat) {sp : Sp} (h : ∀ vs H Q E, sp vs H Q E → vs.length = 3 ∧ rd_carries g j E { nx := fun _ H1 => Q .non H1, rt := Q } (L2.start ["word", "count", "places"] vs) H) : FnG g (j + 2) (gad g.K "carries") sp := by
  obtain ⟨fd, F⟩ := fd_carries T
  exact fnG_of (ok_carries T F h) (FunD.bindsN F fun _ _ _ _ _ _ us hl => match us, hl with | [_, _, _], _ => rfl)
theorem sc_append_record : FnScope ["word", "places", "record"] ["word", "places", "record"] (defScope (top 14)) := ⟨rfl, rfl, rfl, by decide +kernel, rfl, by decide +kernel, by decide +kernel⟩
def rd_append_record (g : Wd) (j : Nat) (E : XK) : TS :=
  tSeq (tDrop (cCall g j (fun cls d _ H => E cls d H) (gad g.K "good_word") (tCons (cV 0) (tCons (tC (.str "word")) (tNil)))))
  (tSeq (tDrop (cCall g j (fun cls d _ H => E cls d H) (gad g.K "at_least") (tCons (cV 1) (tCons (tC (.int 1)) (tCons (tC (.str "places")) (tNil))))))
  (tSeq (tIfS (cTest (tOp (cIn g.K true) (cV 2) (tTup (tCons (tC (.str "0")) (tCons (tC (.str "1")) (tNil)))))) (cRaise (cRais g j (gad g.K "InvalidInput") (tCons (tC (.str "record")) (tNil))) (fun cls d _ H => E cls d H)) (tNext))
  (tSeq (tDrop (cCall g j (fun cls d _ H => E cls d H) (gad g.K "at_least") (tCons (cV 1) (tCons (tCB (cLen g j) (tCons (cV 0) (tNil))) (tCons (tC (.str "places")) (tNil))))))
  (tRet (cCall g j (fun cls d _ H => E cls d H) (gad g.K "_appended") (tCons (cV 0) (tCons (cV 1) (tCons (cV 2) (tNil)))))))))
theorem dv_append_record {g : Wd} (T : Top g) {j : Nat} {f : Addr} {cdv : Value} {A : Around} {outer : List Env} {s : Shared} {H : Hp} {E : XK} (hr : Room (j + 1) (A.deeper (envOfC "append_record" (defScope (top 14)) s.heap.objs.size f cdv))) :
    PSs (cxOf (L2.CX g.P g.w) g.P g.w g.K g.mg g.base ["word", "places", "record"] "append_record" (defScope (top 14)) f cdv A outer s H E) (defBody (top 14)) (rd_append_record g j E) := by
  unfold rd_append_record
  exact (pss_cons (ps_expr (pe_cCall (takes_of rfl rfl rfl rfl) (hr.mono (Nat.le_succ _)) (gf_good_word T) (by rfl) (pa_cons (cv 0) (pa_cons pe_str pa_nil))))
  (pss_cons (ps_expr (pe_cCall (takes_of rfl rfl rfl rfl) (hr.mono (Nat.le_succ _)) (gf_at_least T) (by rfl) (pa_cons (cv 1) (pa_cons pe_int (pa_cons pe_str pa_nil)))))
  (pss_cons (ps_if (ptc op_cNotIn (cv 2) (pe_tup (pa_cons pe_str (pa_cons pe_str pa_nil))) (by with_unfolding_all rfl)) (pss_one (ps_cRaise rfl (takes_of rfl rfl rfl rfl) (hr.mono (Nat.le_succ _)) (gf_InvalidInput T) (by rfl) (pa_cons pe_str pa_nil))) pss_nil)
  (pss_cons (ps_expr (pe_cCall (takes_of rfl rfl rfl rfl) (hr.mono (Nat.le_succ _)) (gf_at_least T) (by rfl) (pa_cons (cv 1) (pa_cons (pe_callB (call_cLen hr) (by rfl) (bl_len T) bt_len (pa_cons (cv 0) pa_nil)) (pa_cons pe_str pa_nil)))))
  (pss_one (ps_ret (pe_cCall (takes_of rfl rfl rfl rfl) (hr.mono (Nat.le_succ _)) (gf__appended T) (by rfl) (pa_cons (cv 0) (pa_cons (cv 1) (pa_cons (cv 2) pa_nil))))))))))
theorem ok_append_record {g : Wd} (T : Top g) {fd : FuncData} (F : FunD g.K "append_record" "append_record" (defArgs (top 14)) (defBody (top 14)) (defScope (top 14)) [.str "1"] [] (gad g.K "append_record") fd) {j : Nat} {sp : Sp} (h : ∀ vs H Q E, sp vs H Q E → vs.length = 3 ∧ rd_append_record g j E { nx := fun _ H1 => Q .non H1, rt := Q } (L2.start ["word", "places", "record"] vs) H) : FnOk g.P g.w g.K g.mg g.base (L2.CX g.P g.w) (j + 2) (gad g.K "append_record") fd ["word", "places", "record"] sp :=
  FunD.ok F sc_append_record (fun vs H Q E hh => (h vs H Q E hh).1) fun cdv A outer s H vs Q E hr hh => ⟨rd_append_record g j E, dv_append_record T hr, (h vs H Q E hh).2⟩
theorem sc__trimmed : FnScope ["text"] ["text"] (defScope (top 15)) := ⟨rfl, rfl, rfl, by decide +kernel, rfl, by decide +kernel, by decide +kernel⟩
def rd__trimmed (g : Wd) (j : Nat) (E : XK) : TS :=
  tRet (cStrM mLstrip (cV 0) (tCons (tC (.str "0")) (tNil)))
theorem dv__trimmed {g : Wd} (T : Top g) {j : Nat} {f : Addr} {cdv : Value} {A : Around} {outer : List Env} {s : Shared} {H : Hp} {E : XK} (hr : Room (j + 1) (A.deeper (envOfC "_trimmed" (defScope (top 15)) s.heap.objs.size f cdv))) :
    PSs (cxOf (L2.CX g.P g.w) g.P g.w g.K g.mg g.base ["text"] "_trimmed" (defScope (top 15)) f cdv A outer s H E) (defBody (top 15)) (rd__trimmed g j E) := by
  unfold rd__trimmed
  exact (pss_one (ps_ret (pe_sm PySem.F.slot_str_lstrip PySem.F.type_str_lstrip m_lstrip (cv 0) (pa_cons pe_str pa_nil))))
theorem ok__trimmed {g : Wd} (T : Top g) {fd : FuncData} (F : FunD g.K "_trimmed" "_trimmed" (defArgs (top 15)) (defBody (top 15)) (defScope (top 15)) [] [] (gad g.K "_trimmed") fd) {j : Nat} {sp : Sp} (h : ∀ vs H Q E, sp vs H Q E → vs.length = 1 ∧ rd__trimmed g j E { nx := fun _ H1 => Q .non H1, rt := Q } (L2.start ["text"] vs) H) : FnOk g.P g.w g.K g.mg g.base (L2.CX g.P g.w) (j + 2) (gad g.K "_trimmed") fd ["text"] sp :=
  FunD.ok F sc__trimmed (fun vs H Q E hh => (h vs H Q E hh).1) fun cdv A outer s H vs Q E hr hh => ⟨rd__trimmed g j E, dv__trimmed T hr, (h vs H Q E hh).2⟩
theorem fk__trimmed {g : Wd} (T : Top g) (j : Nat) {sp : Sp} (h : ∀ vs H Q E, sp vs H Q E → vs.length = 1 ∧ rd__trimmed g j E { nx := fun _ H1 => Q .non H1, rt := Q } (L2.start ["text"] vs) H) : FnG g (j + 2) (gad g.K "_trimmed") sp := by
  obtain ⟨fd, F⟩ := fd__trimmed T
  exact fnG_of (ok__trimmed T F h) (FunD.bindsN F fun _ _ _ _ _ _ us hl => match us, hl with | [_], _ => rfl)
theorem sc__ones : FnScope ["word"] ["word"] (defScope (top 16)) := ⟨rfl, rfl, rfl, by decide +kernel, rfl, by decide +kernel, by decide +kernel⟩
def rd__ones (g : Wd) (j : Nat) (E : XK) : TS :=
  tRet (cStrM mCount (cV 0) (tCons (tC (.str "1")) (tNil)))
theorem dv__ones {g : Wd} (T : Top g) {j : Nat} {f : Addr} {cdv : Value} {A : Around} {outer : List Env} {s : Shared} {H : Hp} {E : XK} (hr : Room (j + 1) (A.deeper (envOfC "_ones" (defScope (top 16)) s.heap.objs.size f cdv))) :
    PSs (cxOf (L2.CX g.P g.w) g.P g.w g.K g.mg g.base ["word"] "_ones" (defScope (top 16)) f cdv A outer s H E) (defBody (top 16)) (rd__ones g j E) := by
  unfold rd__ones
  exact (pss_one (ps_ret (pe_sm PySem.F.slot_str_count PySem.F.type_str_count m_count (cv 0) (pa_cons pe_str pa_nil))))
theorem ok__ones {g : Wd} (T : Top g) {fd : FuncData} (F : FunD g.K "_ones" "_ones" (defArgs (top 16)) (defBody (top 16)) (defScope (top 16)) [] [] (gad g.K "_ones") fd) {j : Nat} {sp : Sp} (h : ∀ vs H Q E, sp vs H Q E → vs.length = 1 ∧ rd__ones g j E { nx := fun _ H1 => Q .non H1, rt := Q } (L2.start ["word"] vs) H) : FnOk g.P g.w g.K g.mg g.base (L2.CX g.P g.w) (j + 2) (gad g.K "_ones") fd ["word"] sp :=
  FunD.ok F sc__ones (fun vs H Q E hh => (h vs H Q E hh).1) fun cdv A outer s H vs Q E hr hh => ⟨rd__ones g j E, dv__ones T hr, (h vs H Q E hh).2⟩
theorem fk__ones {g : Wd} (T : Top g) (j : Nat) {sp : Sp} (h : ∀ vs H Q E, sp vs H Q E → vs.length = 1 ∧ rd__ones g j E { nx := fun _ H1 => Q .non H1, rt := Q } (L2.start ["word"] vs) H) : FnG g (j + 2) (gad g.K "_ones") sp := by
  obtain ⟨fd, F⟩ := fd__ones T
  exact fnG_of (ok__ones T F h) (FunD.bindsN F fun _ _ _ _ _ _ us hl => match us, hl with | [_], _ => rfl)
theorem sc__depth_list : FnScope ["word", "place", "mark"] ["word"] (defScope (top 17)) := ⟨rfl, rfl, rfl, by decide +kernel, rfl, by decide +kernel, by decide +kernel⟩
def rd__depth_list (g : Wd) (j : Nat) (E : XK) : TS :=
  tRet (tLc (iEs (tCons (cV 0) (tNil))) (cgTup g.K 2 (cgCons (gName 1) (cgCons (gName 2) (cgNil)))) (cTest (tOp (cEqN g.K false) (cV 2) (tC (.str "1")))) (tOp cSub (tCB (cLen g j) (tCons (cV 0) (tNil))) (cV 1)) [1, 2])
theorem dv__depth_list {g : Wd} (T : Top g) {j : Nat} {f : Addr} {cdv : Value} {A : Around} {outer : List Env} {s : Shared} {H : Hp} {E : XK} (hr : Room (j + 1) (A.deeper (envOfC "_depth_list" (defScope (top 17)) s.heap.objs.size f cdv))) :
    PSs (cxOf (L2.CX g.P g.w) g.P g.w g.K g.mg g.base ["word", "place", "mark"] "_depth_list" (defScope (top 17)) f cdv A outer s H E) (defBody (top 17)) (rd__depth_list g j E) := by
  unfold rd__depth_list
  exact (pss_one (ps_ret (pe_lc rfl sc__depth_list.nd (pi_es (by rfl) (bl_enumerate T) (pa_cons (cv 0) pa_nil)) (blkOk_by (own := [("place", 1), ("mark", 2)]) (by change blkC ["word", "place", "mark"] (defScope (top 17)) _ _ = true; decide +kernel)) (fun s H C cl fp => (pg_ctup rfl (pgs_ccons (pg_name sc__depth_list.nd rfl (Or.inl rfl)) (pgs_ccons (pg_name sc__depth_list.nd rfl (Or.inl rfl)) pgs_cnil)))) (fun s H C cl fp => (pts_one (ptc (op_cEq hr.units) (cv 2) pe_str (nomark _)))) (fun s H C cl fp => (pe_op op_cSub (pe_callB (call_cLen hr) (by rfl) (bl_len T) bt_len (pa_cons (cv 0) pa_nil)) (cv 1))))))
theorem ok__depth_list {g : Wd} (T : Top g) {fd : FuncData} (F : FunD g.K "_depth_list" "_depth_list" (defArgs (top 17)) (defBody (top 17)) (defScope (top 17)) [] [] (gad g.K "_depth_list") fd) {j : Nat} {sp : Sp} (h : ∀ vs H Q E, sp vs H Q E → vs.length = 1 ∧ rd__depth_list g j E { nx := fun _ H1 => Q .non H1, rt := Q } (L2.start ["word", "place", "mark"] vs) H) : FnOk g.P g.w g.K g.mg g.base (L2.CX g.P g.w) (j + 2) (gad g.K "_depth_list") fd ["word"] sp :=
  FunD.ok F sc__depth_list (fun vs H Q E hh => (h vs H Q E hh).1) fun cdv A outer s H vs Q E hr hh => ⟨rd__depth_list g j E, dv__depth_list T hr, (h vs H Q E hh).2⟩
theorem fk__depth_list {g : Wd} (T : Top g) (j : Nat) {sp : Sp} (h : ∀ vs H Q E, sp vs H Q E → vs.length = 1 ∧ rd__depth_list g j E { nx := fun _ H1 => Q .non H1, rt := Q } (L2.start ["word", "place", "mark"] vs) H) : FnG g (j + 2) (gad g.K "_depth_list") sp := by
  obtain ⟨fd, F⟩ := fd__depth_list T
  exact fnG_of (ok__depth_list T F h) (FunD.bindsN F fun _ _ _ _ _ _ us hl => match us, hl with | [_], _ => rfl)
theorem sc__released : FnScope ["word", "index", "place"] ["word", "index"] (defScope (top 18)) := ⟨rfl, rfl, rfl, by decide +kernel, rfl, by decide +kernel, by decide +kernel⟩
def rd__released (g : Wd) (j : Nat) (E : XK) : TS :=
  tSeq (tIfS (cTest (tOp (cIsN false) (cV 1) (tC .non))) (tRet (cV 0)) (tNext))
  (tSeq (tAsg (tOp cSub (tCB (cLen g j) (tCons (cV 0) (tNil))) (tOp (cIx g.K) (cCall g j (fun cls d _ H => E cls d H) (gad g.K "_depth_list") (tCons (cV 0) (tNil))) (cV 1))) (gName 2))
  (tRet (cCall g j (fun cls d _ H => E cls d H) (gad g.K "_trimmed") (tCons (tOp (cAdd g.K noOw) (tOp (cAdd g.K noOw) (tSl (cSl g.K) (cV 0) (tNoPart) (cPart (cV 2))) (tC (.str "0"))) (tSl (cSl g.K) (cV 0) (cPart (tOp (cAdd g.K noOw) (cV 2) (tC (.int 1)))) (tNoPart))) (tNil)))))
theorem dv__released {g : Wd} (T : Top g) {j : Nat} {f : Addr} {cdv : Value} {A : Around} {outer : List Env} {s : Shared} {H : Hp} {E : XK} (hr : Room (j + 1) (A.deeper (envOfC "_released" (defScope (top 18)) s.heap.objs.size f cdv))) :
    PSs (cxOf (L2.CX g.P g.w) g.P g.w g.K g.mg g.base ["word", "index", "place"] "_released" (defScope (top 18)) f cdv A outer s H E) (defBody (top 18)) (rd__released g j E) := by
  unfold rd__released
  exact (pss_cons (ps_if (ptc op_cIs (cv 1) pe_non (nomark _)) (pss_one (ps_ret (cv 0))) pss_nil)
  (pss_cons (ps_set (i := 2) sc__released.nd rfl (Or.inl rfl) (pe_op op_cSub (pe_callB (call_cLen hr) (by rfl) (bl_len T) bt_len (pa_cons (cv 0) pa_nil)) (pe_ix ix_c (pe_cCall (takes_of rfl rfl rfl rfl) (hr.mono (Nat.le_succ _)) (gf__depth_list T) (by rfl) (pa_cons (cv 0) pa_nil)) (cv 1) (fun _ _ => rfl))))
  (pss_one (ps_ret (pe_cCall (takes_of rfl rfl rfl rfl) (hr.mono (Nat.le_succ _)) (gf__trimmed T) (by rfl) (pa_cons (pe_op (op_cAdd noOw_ok) (pe_op (op_cAdd noOw_ok) (pe_slice sl_c (cv 0) po_none (po_c (cv 2))) pe_str) (pe_slice sl_c (cv 0) (po_c (pe_op (op_cAdd noOw_ok) (cv 2) pe_int)) po_none)) pa_nil))))))
theorem ok__released {g : Wd} (T : Top g) {fd : FuncData} (F : FunD g.K "_released" "_released" (defArgs (top 18)) (defBody (top 18)) (defScope (top 18)) [] [] (gad g.K "_released") fd) {j : Nat} {sp : Sp} (h : ∀ vs H Q E, sp vs H Q E → vs.length = 2 ∧ rd__released g j E { nx := fun _ H1 => Q .non H1, rt := Q } (L2.start ["word", "index", "place"] vs) H) : FnOk g.P g.w g.K g.mg g.base (L2.CX g.P g.w) (j + 2) (gad g.K "_released") fd ["word", "index"] sp :=
  FunD.ok F sc__released (fun vs H Q E hh => (h vs H Q E hh).1) fun cdv A outer s H vs Q E hr hh => ⟨rd__released g j E, dv__released T hr, (h vs H Q E hh).2⟩
theorem fk__released {g : Wd} (T : Top g) (j : Nat) {sp : Sp} (h : ∀ vs H Q E, sp vs H Q E → vs.length = 2 ∧ rd__released g j E { nx := fun _ H1 => Q .non H1, rt := Q } (L2.start ["word", "index", "place"] vs) H) : FnG g (j + 2) (gad g.K "_released") sp := by
  obtain ⟨fd, F⟩ := fd__released T
  exact fnG_of (ok__released T F h) (FunD.bindsN F fun _ _ _ _ _ _ us hl => match us, hl with | [_, _], _ => rfl)
theorem sc__carried : FnScope ["word", "places"] ["word", "places"] (defScope (top 19)) := ⟨rfl, rfl, rfl, by decide +kernel, rfl, by decide +kernel, by decide +kernel⟩
def rd__carried (g : Wd) (j : Nat) (E : XK) : TS :=
  tSeq (tIfS (tOr (cTest (tOp (cEqN g.K false) (cV 0) (tC (.str "")))) (cTest (tOp cGe (tCB (cLen g j) (tCons (cV 0) (tNil))) (cV 1)))) (tRet (cV 0)) (tNext))
  (tRet (cCall g j (fun cls d _ H => E cls d H) (gad g.K "_trimmed") (tCons (tOp (cAdd g.K noOw) (tSl (cSl g.K) (cV 0) (cPart (tC (.int 1))) (tNoPart)) (tC (.str "1"))) (tNil))))
theorem dv__carried {g : Wd} (T : Top g) {j : Nat} {f : Addr} {cdv : Value} {A : Around} {outer : List Env} {s : Shared} {H : Hp} {E : XK} (hr : Room (j + 1) (A.deeper (envOfC "_carried" (defScope (top 19)) s.heap.objs.size f cdv))) :
    PSs (cxOf (L2.CX g.P g.w) g.P g.w g.K g.mg g.base ["word", "places"] "_carried" (defScope (top 19)) f cdv A outer s H E) (defBody (top 19)) (rd__carried g j E) := by
  unfold rd__carried
  exact (pss_cons (ps_if (pw_or (ptc (op_cEq hr.units) (cv 0) pe_str (nomark _)) (pw_or1 (ptc op_cGe (pe_callB (call_cLen hr) (by rfl) (bl_len T) bt_len (pa_cons (cv 0) pa_nil)) (cv 1) (nomark _)))).pt (pss_one (ps_ret (cv 0))) pss_nil)
  (pss_one (ps_ret (pe_cCall (takes_of rfl rfl rfl rfl) (hr.mono (Nat.le_succ _)) (gf__trimmed T) (by rfl) (pa_cons (pe_op (op_cAdd noOw_ok) (pe_slice sl_c (cv 0) (po_c pe_int) po_none) pe_str) pa_nil)))))
theorem ok__carried {g : Wd} (T : Top g) {fd : FuncData} (F : FunD g.K "_carried" "_carried" (defArgs (top 19)) (defBody (top 19)) (defScope (top 19)) [] [] (gad g.K "_carried") fd) {j : Nat} {sp : Sp} (h : ∀ vs H Q E, sp vs H Q E → vs.length = 2 ∧ rd__carried g j E { nx := fun _ H1 => Q .non H1, rt := Q } (L2.start ["word", "places"] vs) H) : FnOk g.P g.w g.K g.mg g.base (L2.CX g.P g.w) (j + 2) (gad g.K "_carried") fd ["word", "places"] sp :=
  FunD.ok F sc__carried (fun vs H Q E hh => (h vs H Q E hh).1) fun cdv A outer s H vs Q E hr hh => ⟨rd__carried g j E, dv__carried T hr, (h vs H Q E hh).2⟩
theorem fk__carried {g : Wd} (T : Top g) (j : Nat) {sp : Sp} (h : ∀ vs H Q E, sp vs H Q E → vs.length = 2 ∧ rd__carried g j E { nx := fun _ H1 => Q .non H1, rt := Q } (L2.start ["word", "places"] vs) H) : FnG g (j + 2) (gad g.K "_carried") sp := by
  obtain ⟨fd, F⟩ := fd__carried T
  exact fnG_of (ok__carried T F h) (FunD.bindsN F fun _ _ _ _ _ _ us hl => match us, hl with | [_, _], _ => rfl)
theorem sc__carried_often : FnScope ["word", "count", "places", "current", "_", "moved"] ["word", "count", "places"] (defScope (top 20)) := ⟨rfl, rfl, rfl, by decide +kernel, rfl, by decide +kernel, by decide +kernel⟩
def rd__carried_often (g : Wd) (j : Nat) (E : XK) : TS :=
  tSeq (tAsg (cV 0) (gName 3))
  (tSeq (tFor (iRng1 (tCons (cV 1) (tNil))) (gName 4) (tSeq (tAsg (cCall g j (fun cls d _ H => E cls d H) (gad g.K "_carried") (tCons (cV 3) (tCons (cV 2) (tNil)))) (gName 5))
  (tSeq (tIfS (cTest (tOp (cEqN g.K false) (cV 5) (cV 3))) (tRet (cV 3)) (tNext))
  (tAsg (cV 5) (gName 3)))))
  (tRet (cV 3)))
theorem dv__carried_often {g : Wd} (T : Top g) {j : Nat} {f : Addr} {cdv : Value} {A : Around} {outer : List Env} {s : Shared} {H : Hp} {E : XK} (hr : Room (j + 1) (A.deeper (envOfC "_carried_often" (defScope (top 20)) s.heap.objs.size f cdv))) :
    PSs (cxOf (L2.CX g.P g.w) g.P g.w g.K g.mg g.base ["word", "count", "places", "current", "_", "moved"] "_carried_often" (defScope (top 20)) f cdv A outer s H E) (defBody (top 20)) (rd__carried_often g j E) := by
  unfold rd__carried_often
  exact (pss_cons (ps_set (i := 3) sc__carried_often.nd rfl (Or.inl rfl) (cv 0))
  (pss_cons (ps_for (passes_of rfl) rfl (pi_range1 (by rfl) (bl_range T) (pa_cons (cv 1) pa_nil)) (pg_name sc__carried_often.nd rfl (Or.inl rfl)) (pss_cons (ps_set (i := 5) sc__carried_often.nd rfl (Or.inl rfl) (pe_cCall (takes_of rfl rfl rfl rfl) (hr.mono (Nat.le_succ _)) (gf__carried T) (by rfl) (pa_cons (cv 3) (pa_cons (cv 2) pa_nil))))
  (pss_cons (ps_if (ptc (op_cEq hr.units) (cv 5) (cv 3) (nomark _)) (pss_one (ps_ret (cv 3))) pss_nil)
  (pss_one (ps_set (i := 3) sc__carried_often.nd rfl (Or.inl rfl) (cv 5))))))
  (pss_one (ps_ret (cv 3)))))
theorem ok__carried_often {g : Wd} (T : Top g) {fd : FuncData} (F : FunD g.K "_carried_often" "_carried_often" (defArgs (top 20)) (defBody (top 20)) (defScope (top 20)) [] [] (gad g.K "_carried_often") fd) {j : Nat} {sp : Sp} (h : ∀ vs H Q E, sp vs H Q E → vs.length = 3 ∧ rd__carried_often g j E { nx := fun _ H1 => Q .non H1, rt := Q } (L2.start ["word", "count", "places", "current", "_", "moved"] vs) H) : FnOk g.P g.w g.K g.mg g.base (L2.CX g.P g.w) (j + 2) (gad g.K "_carried_often") fd ["word", "count", "places"] sp :=
  FunD.ok F sc__carried_often (fun vs H Q E hh => (h vs H Q E hh).1) fun cdv A outer s H vs Q E hr hh => ⟨rd__carried_often g j E, dv__carried_often T hr, (h vs H Q E hh).2⟩
theorem fk__carried_often {g : Wd} (T : Top g) (j : Nat) {sp : Sp} (h : ∀ vs H Q E, sp vs H Q E → vs.length = 3 ∧ rd__carried_often g j E { nx := fun _ H1 => Q .non H1, rt := Q } (L2.start ["word", "count", "places", "current", "_", "moved"] vs) H) : FnG g (j + 2) (gad g.K "_carried_often") sp := by
  obtain ⟨fd, F⟩ := fd__carried_often T
  exact fnG_of (ok__carried_often T F h) (FunD.bindsN F fun _ _ _ _ _ _ us hl => match us, hl with | [_, _, _], _ => rfl)
theorem sc__appended : FnScope ["word", "places", "record"] ["word", "places", "record"] (defScope (top 21)) := ⟨rfl, rfl, rfl, by decide +kernel, rfl, by decide +kernel, by decide +kernel⟩
def rd__appended (g : Wd) (j : Nat) (E : XK) : TS :=
  tSeq (tIfS (cTest (tOp cGe (tCB (cLen g j) (tCons (cV 0) (tNil))) (cV 1))) (cRaise (cRais g j (gad g.K "NoPlace") (tCons (tCB (cLen g j) (tCons (cV 0) (tNil))) (tNil))) (fun cls d _ H => E cls d H)) (tNext))
  (tRet (cCall g j (fun cls d _ H => E cls d H) (gad g.K "_trimmed") (tCons (tOp (cAdd g.K noOw) (cV 0) (cV 2)) (tNil))))
theorem dv__appended {g : Wd} (T : Top g) {j : Nat} {f : Addr} {cdv : Value} {A : Around} {outer : List Env} {s : Shared} {H : Hp} {E : XK} (hr : Room (j + 1) (A.deeper (envOfC "_appended" (defScope (top 21)) s.heap.objs.size f cdv))) :
    PSs (cxOf (L2.CX g.P g.w) g.P g.w g.K g.mg g.base ["word", "places", "record"] "_appended" (defScope (top 21)) f cdv A outer s H E) (defBody (top 21)) (rd__appended g j E) := by
  unfold rd__appended
  exact (pss_cons (ps_if (ptc op_cGe (pe_callB (call_cLen hr) (by rfl) (bl_len T) bt_len (pa_cons (cv 0) pa_nil)) (cv 1) (nomark _)) (pss_one (ps_cRaise rfl (takes_of rfl rfl rfl rfl) (hr.mono (Nat.le_succ _)) (gf_NoPlace T) (by rfl) (pa_cons (pe_callB (call_cLen hr) (by rfl) (bl_len T) bt_len (pa_cons (cv 0) pa_nil)) pa_nil))) pss_nil)
  (pss_one (ps_ret (pe_cCall (takes_of rfl rfl rfl rfl) (hr.mono (Nat.le_succ _)) (gf__trimmed T) (by rfl) (pa_cons (pe_op (op_cAdd noOw_ok) (cv 0) (cv 2)) pa_nil)))))
theorem ok__appended {g : Wd} (T : Top g) {fd : FuncData} (F : FunD g.K "_appended" "_appended" (defArgs (top 21)) (defBody (top 21)) (defScope (top 21)) [] [] (gad g.K "_appended") fd) {j : Nat} {sp : Sp} (h : ∀ vs H Q E, sp vs H Q E → vs.length = 3 ∧ rd__appended g j E { nx := fun _ H1 => Q .non H1, rt := Q } (L2.start ["word", "places", "record"] vs) H) : FnOk g.P g.w g.K g.mg g.base (L2.CX g.P g.w) (j + 2) (gad g.K "_appended") fd ["word", "places", "record"] sp :=
  FunD.ok F sc__appended (fun vs H Q E hh => (h vs H Q E hh).1) fun cdv A outer s H vs Q E hr hh => ⟨rd__appended g j E, dv__appended T hr, (h vs H Q E hh).2⟩
theorem fk__appended {g : Wd} (T : Top g) (j : Nat) {sp : Sp} (h : ∀ vs H Q E, sp vs H Q E → vs.length = 3 ∧ rd__appended g j E { nx := fun _ H1 => Q .non H1, rt := Q } (L2.start ["word", "places", "record"] vs) H) : FnG g (j + 2) (gad g.K "_appended") sp := by
  obtain ⟨fd, F⟩ := fd__appended T
  exact fnG_of (ok__appended T F h) (FunD.bindsN F fun _ _ _ _ _ _ us hl => match us, hl with | [_, _, _], _ => rfl)
theorem sc__check_terms : FnScope ["places", "limit"] ["places", "limit"] (defScope (top 23)) := ⟨rfl, rfl, rfl, by decide +kernel, rfl, by decide +kernel, by decide +kernel⟩
def rd__check_terms (g : Wd) (j : Nat) (E : XK) : TS :=
  tSeq (tDrop (cCall g j (fun cls d _ H => E cls d H) (gad g.K "at_least") (tCons (cV 0) (tCons (tC (.int 1)) (tCons (tC (.str "places")) (tNil))))))
  (tSeq (tDrop (cCall g j (fun cls d _ H => E cls d H) (gad g.K "at_least") (tCons (cV 1) (tCons (tC (.int 1)) (tCons (tC (.str "limit")) (tNil))))))
  (tDrop (cCall g j (fun cls d _ H => E cls d H) (gad g.K "at_most") (tCons (cV 1) (tCons (cV 0) (tCons (tC (.str "limit")) (tNil)))))))
theorem dv__check_terms {g : Wd} (T : Top g) {j : Nat} {f : Addr} {cdv : Value} {A : Around} {outer : List Env} {s : Shared} {H : Hp} {E : XK} (hr : Room (j + 1) (A.deeper (envOfC "_check_terms" (defScope (top 23)) s.heap.objs.size f cdv))) :
    PSs (cxOf (L2.CX g.P g.w) g.P g.w g.K g.mg g.base ["places", "limit"] "_check_terms" (defScope (top 23)) f cdv A outer s H E) (defBody (top 23)) (rd__check_terms g j E) := by
  unfold rd__check_terms
  exact (pss_cons (ps_expr (pe_cCall (takes_of rfl rfl rfl rfl) (hr.mono (Nat.le_succ _)) (gf_at_least T) (by rfl) (pa_cons (cv 0) (pa_cons pe_int (pa_cons pe_str pa_nil)))))
  (pss_cons (ps_expr (pe_cCall (takes_of rfl rfl rfl rfl) (hr.mono (Nat.le_succ _)) (gf_at_least T) (by rfl) (pa_cons (cv 1) (pa_cons pe_int (pa_cons pe_str pa_nil)))))
  (pss_one (ps_expr (pe_cCall (takes_of rfl rfl rfl rfl) (hr.mono (Nat.le_succ _)) (gf_at_most T) (by rfl) (pa_cons (cv 1) (pa_cons (cv 0) (pa_cons pe_str pa_nil))))))))
theorem ok__check_terms {g : Wd} (T : Top g) {fd : FuncData} (F : FunD g.K "_check_terms" "_check_terms" (defArgs (top 23)) (defBody (top 23)) (defScope (top 23)) [] [] (gad g.K "_check_terms") fd) {j : Nat} {sp : Sp} (h : ∀ vs H Q E, sp vs H Q E → vs.length = 2 ∧ rd__check_terms g j E { nx := fun _ H1 => Q .non H1, rt := Q } (L2.start ["places", "limit"] vs) H) : FnOk g.P g.w g.K g.mg g.base (L2.CX g.P g.w) (j + 2) (gad g.K "_check_terms") fd ["places", "limit"] sp :=
  FunD.ok F sc__check_terms (fun vs H Q E hh => (h vs H Q E hh).1) fun cdv A outer s H vs Q E hr hh => ⟨rd__check_terms g j E, dv__check_terms T hr, (h vs H Q E hh).2⟩
theorem fk__check_terms {g : Wd} (T : Top g) (j : Nat) {sp : Sp} (h : ∀ vs H Q E, sp vs H Q E → vs.length = 2 ∧ rd__check_terms g j E { nx := fun _ H1 => Q .non H1, rt := Q } (L2.start ["places", "limit"] vs) H) : FnG g (j + 2) (gad g.K "_check_terms") sp := by
  obtain ⟨fd, F⟩ := fd__check_terms T
  exact fnG_of (ok__check_terms T F h) (FunD.bindsN F fun _ _ _ _ _ _ us hl => match us, hl with | [_, _], _ => rfl)
theorem sc__possible_moves : FnScope ["word", "limit", "indexes"] ["word", "limit"] (defScope (top 24)) := ⟨rfl, rfl, rfl, by decide +kernel, rfl, by decide +kernel, by decide +kernel⟩
def rd__possible_moves (g : Wd) (j : Nat) (E : XK) : TS :=
  tSeq (tAsg (tLstRg (tRg1 (cCall g j (fun cls d _ H => E cls d H) (gad g.K "living") (tCons (cV 0) (tNil))))) (gName 2))
  (tSeq (tIfS (cTest (tOp cLt (cCall g j (fun cls d _ H => E cls d H) (gad g.K "living") (tCons (cV 0) (tNil))) (cV 1))) (tRet (tOp (cAdd g.K noOw) (tLst (tCons (tC .non) (tNil))) (cV 2))) (tNext))
  (tRet (cV 2)))
theorem dv__possible_moves {g : Wd} (T : Top g) {j : Nat} {f : Addr} {cdv : Value} {A : Around} {outer : List Env} {s : Shared} {H : Hp} {E : XK} (hr : Room (j + 1) (A.deeper (envOfC "_possible_moves" (defScope (top 24)) s.heap.objs.size f cdv))) :
    PSs (cxOf (L2.CX g.P g.w) g.P g.w g.K g.mg g.base ["word", "limit", "indexes"] "_possible_moves" (defScope (top 24)) f cdv A outer s H E) (defBody (top 24)) (rd__possible_moves g j E) := by
  unfold rd__possible_moves
  exact (pss_cons (ps_set (i := 2) sc__possible_moves.nd rfl (Or.inl rfl) (pe_listRg rfl (by rfl) (bl_list T) (prg_1 (by rfl) (bl_range T) (pe_cCall (takes_of rfl rfl rfl rfl) (hr.mono (Nat.le_succ _)) (gf_living T) (by rfl) (pa_cons (cv 0) pa_nil)))))
  (pss_cons (ps_if (ptc op_cLt (pe_cCall (takes_of rfl rfl rfl rfl) (hr.mono (Nat.le_succ _)) (gf_living T) (by rfl) (pa_cons (cv 0) pa_nil)) (cv 1) (nomark _)) (pss_one (ps_ret (pe_op (op_cAdd noOw_ok) (pe_lst (pa_cons pe_non pa_nil)) (cv 2)))) pss_nil)
  (pss_one (ps_ret (cv 2)))))
theorem ok__possible_moves {g : Wd} (T : Top g) {fd : FuncData} (F : FunD g.K "_possible_moves" "_possible_moves" (defArgs (top 24)) (defBody (top 24)) (defScope (top 24)) [] [] (gad g.K "_possible_moves") fd) {j : Nat} {sp : Sp} (h : ∀ vs H Q E, sp vs H Q E → vs.length = 2 ∧ rd__possible_moves g j E { nx := fun _ H1 => Q .non H1, rt := Q } (L2.start ["word", "limit", "indexes"] vs) H) : FnOk g.P g.w g.K g.mg g.base (L2.CX g.P g.w) (j + 2) (gad g.K "_possible_moves") fd ["word", "limit"] sp :=
  FunD.ok F sc__possible_moves (fun vs H Q E hh => (h vs H Q E hh).1) fun cdv A outer s H vs Q E hr hh => ⟨rd__possible_moves g j E, dv__possible_moves T hr, (h vs H Q E hh).2⟩
theorem fk__possible_moves {g : Wd} (T : Top g) (j : Nat) {sp : Sp} (h : ∀ vs H Q E, sp vs H Q E → vs.length = 2 ∧ rd__possible_moves g j E { nx := fun _ H1 => Q .non H1, rt := Q } (L2.start ["word", "limit", "indexes"] vs) H) : FnG g (j + 2) (gad g.K "_possible_moves") sp := by
  obtain ⟨fd, F⟩ := fd__possible_moves T
  exact fnG_of (ok__possible_moves T F h) (FunD.bindsN F fun _ _ _ _ _ _ us hl => match us, hl with | [_, _], _ => rfl)
theorem sc__after_put : FnScope ["keeper", "standing", "move", "places", "budgets", "word", "phase", "chosen"] ["keeper", "standing", "move", "places", "budgets"] (defScope (top 25)) := ⟨rfl, rfl, rfl, by decide +kernel, rfl, by decide +kernel, by decide +kernel⟩
def rd__after_put (g : Wd) (j : Nat) (E : XK) : TS :=
  tSeq (tAsg (cV 1) (cgTup g.K 2 (cgCons (gName 5) (cgCons (gName 6) (cgNil)))))
  (tSeq (tIfS (cTest (tOp (cIsN true) (cV 2) (tC .non))) (tAsg (cCall g j (fun cls d _ H => E cls d H) (gad g.K "release") (tCons (cV 5) (tCons (cV 2) (tNil)))) (gName 5)) (tNext))
  (tSeq (tAsg (cMeth g j (fun cls d _ H => E cls d H) "choose" (cV 0) (tCons (cV 5) (tCons (cV 3) (tCons (cV 4) (tCons (cV 6) (tNil)))))) (gName 7))
  (tSeq (tAsg (cCall g j (fun cls d _ H => E cls d H) (gad g.K "carries") (tCons (cV 5) (tCons (cV 7) (tCons (cV 3) (tNil))))) (gName 5))
  (tSeq (tIfS (cTest (tOp (cEqN g.K false) (tCB (cLen g j) (tCons (cV 5) (tNil))) (cV 3))) (tRet (tC .non)) (tNext))
  (tRet (tTup (tCons (cCall g j (fun cls d _ H => E cls d H) (gad g.K "append_record") (tCons (cV 5) (tCons (cV 3) (tNil)))) (tCons (tOp cMod (tOp (cAdd g.K noOw) (cV 6) (tC (.int 1))) (tCB (cLen g j) (tCons (cV 4) (tNil)))) (tNil)))))))))
theorem dv__after_put {g : Wd} (T : Top g) {j : Nat} {f : Addr} {cdv : Value} {A : Around} {outer : List Env} {s : Shared} {H : Hp} {E : XK} (hr : Room (j + 1) (A.deeper (envOfC "_after_put" (defScope (top 25)) s.heap.objs.size f cdv))) :
    PSs (cxOf (L2.CX g.P g.w) g.P g.w g.K g.mg g.base ["keeper", "standing", "move", "places", "budgets", "word", "phase", "chosen"] "_after_put" (defScope (top 25)) f cdv A outer s H E) (defBody (top 25)) (rd__after_put g j E) := by
  unfold rd__after_put
  exact (pss_cons (ps_asg (cv 1) (pg_ctup rfl (pgs_ccons (pg_name sc__after_put.nd rfl (Or.inl rfl)) (pgs_ccons (pg_name sc__after_put.nd rfl (Or.inl rfl)) pgs_cnil))))
  (pss_cons (ps_if (ptc op_cIsNot (cv 2) pe_non (nomark _)) (pss_one (ps_set (i := 5) sc__after_put.nd rfl (Or.inl rfl) (pe_cCall (takes_of rfl rfl rfl rfl) (hr.mono (Nat.le_succ _)) (gf_release T) (by rfl) (pa_cons (cv 5) (pa_cons (cv 2) pa_nil))))) pss_nil)
  (pss_cons (ps_set (i := 7) sc__after_put.nd rfl (Or.inl rfl) (pe_cMeth (takes_of rfl rfl rfl rfl) (hr.mono (Nat.le_succ _)) (cv 0) (pa_cons (cv 5) (pa_cons (cv 3) (pa_cons (cv 4) (pa_cons (cv 6) pa_nil))))))
  (pss_cons (ps_set (i := 5) sc__after_put.nd rfl (Or.inl rfl) (pe_cCall (takes_of rfl rfl rfl rfl) (hr.mono (Nat.le_succ _)) (gf_carries T) (by rfl) (pa_cons (cv 5) (pa_cons (cv 7) (pa_cons (cv 3) pa_nil)))))
  (pss_cons (ps_if (ptc (op_cEq hr.units) (pe_callB (call_cLen hr) (by rfl) (bl_len T) bt_len (pa_cons (cv 5) pa_nil)) (cv 3) (nomark _)) (pss_one (ps_ret pe_non)) pss_nil)
  (pss_one (ps_ret (pe_tup (pa_cons (pe_cCall (takes_of rfl rfl rfl rfl) (hr.mono (Nat.le_succ _)) (gf_append_record T) (by rfl) (pa_cons (cv 5) (pa_cons (cv 3) pa_nil))) (pa_cons (pe_op op_cMod (pe_op (op_cAdd noOw_ok) (cv 6) pe_int) (pe_callB (call_cLen hr) (by rfl) (bl_len T) bt_len (pa_cons (cv 4) pa_nil))) pa_nil))))))))))
theorem ok__after_put {g : Wd} (T : Top g) {fd : FuncData} (F : FunD g.K "_after_put" "_after_put" (defArgs (top 25)) (defBody (top 25)) (defScope (top 25)) [] [] (gad g.K "_after_put") fd) {j : Nat} {sp : Sp} (h : ∀ vs H Q E, sp vs H Q E → vs.length = 5 ∧ rd__after_put g j E { nx := fun _ H1 => Q .non H1, rt := Q } (L2.start ["keeper", "standing", "move", "places", "budgets", "word", "phase", "chosen"] vs) H) : FnOk g.P g.w g.K g.mg g.base (L2.CX g.P g.w) (j + 2) (gad g.K "_after_put") fd ["keeper", "standing", "move", "places", "budgets"] sp :=
  FunD.ok F sc__after_put (fun vs H Q E hh => (h vs H Q E hh).1) fun cdv A outer s H vs Q E hr hh => ⟨rd__after_put g j E, dv__after_put T hr, (h vs H Q E hh).2⟩
theorem fk__after_put {g : Wd} (T : Top g) (j : Nat) {sp : Sp} (h : ∀ vs H Q E, sp vs H Q E → vs.length = 5 ∧ rd__after_put g j E { nx := fun _ H1 => Q .non H1, rt := Q } (L2.start ["keeper", "standing", "move", "places", "budgets", "word", "phase", "chosen"] vs) H) : FnG g (j + 2) (gad g.K "_after_put") sp := by
  obtain ⟨fd, F⟩ := fd__after_put T
  exact fnG_of (ok__after_put T F h) (FunD.bindsN F fun _ _ _ _ _ _ us hl => match us, hl with | [_, _, _, _, _], _ => rfl)
theorem sc_run_row : FnScope ["keeper", "row", "places", "limit", "budgets", "standing", "words", "move"] ["keeper", "row", "places", "limit", "budgets"] (defScope (top 26)) := ⟨rfl, rfl, rfl, by decide +kernel, rfl, by decide +kernel, by decide +kernel⟩
def rd_run_row (g : Wd) (j : Nat) (E : XK) : TS :=
  tSeq (tDrop (cCall g j (fun cls d _ H => E cls d H) (gad g.K "_check_terms") (tCons (cV 2) (tCons (cV 3) (tNil)))))
  (tSeq (tAsg (tTup (tCons (tC (.str "")) (tCons (tC (.int 0)) (tNil)))) (gName 5))
  (tSeq (tAsg (tLst (tNil)) (gName 6))
  (tSeq (tFor (iSeq g.K (cV 1)) (gName 7) (tSeq (tIfS (cTest (tOp (cIn g.K true) (cV 7) (cCall g j (fun cls d _ H => E cls d H) (gad g.K "_possible_moves") (tCons (tOp (cIx g.K) (cV 5) (tC (.int 0))) (tCons (cV 3) (tNil)))))) (cRaise (cRais g j (gad g.K "InvalidInput") (tCons (tC (.str "row")) (tNil))) (fun cls d _ H => E cls d H)) (tNext))
  (tSeq (tAsg (cCall g j (fun cls d _ H => E cls d H) (gad g.K "_after_put") (tCons (cV 0) (tCons (cV 5) (tCons (cV 7) (tCons (cV 2) (tCons (cV 4) (tNil))))))) (gName 5))
  (tSeq (tIfS (cTest (tOp (cIsN false) (cV 5) (tC .non))) (tBreak) (tNext))
  (tDrop (cApp g.K (cV 6) (tCons (tOp (cIx g.K) (cV 5) (tC (.int 0))) (tNil))))))))
  (tRet (cV 6)))))
theorem dv_run_row {g : Wd} (T : Top g) {j : Nat} {f : Addr} {cdv : Value} {A : Around} {outer : List Env} {s : Shared} {H : Hp} {E : XK} (hr : Room (j + 1) (A.deeper (envOfC "run_row" (defScope (top 26)) s.heap.objs.size f cdv))) :
    PSs (cxOf (L2.CX g.P g.w) g.P g.w g.K g.mg g.base ["keeper", "row", "places", "limit", "budgets", "standing", "words", "move"] "run_row" (defScope (top 26)) f cdv A outer s H E) (defBody (top 26)) (rd_run_row g j E) := by
  unfold rd_run_row
  exact (pss_cons (ps_expr (pe_cCall (takes_of rfl rfl rfl rfl) (hr.mono (Nat.le_succ _)) (gf__check_terms T) (by rfl) (pa_cons (cv 2) (pa_cons (cv 3) pa_nil))))
  (pss_cons (ps_set (i := 5) sc_run_row.nd rfl (Or.inl rfl) (pe_tup (pa_cons pe_str (pa_cons pe_int pa_nil))))
  (pss_cons (ps_set (i := 6) sc_run_row.nd rfl (Or.inl rfl) (pe_lst pa_nil))
  (pss_cons (ps_for (passes_of rfl) rfl (pi_seq (cv 1)) (pg_name sc_run_row.nd rfl (Or.inl rfl)) (pss_cons (ps_if (ptc op_cNotIn (cv 7) (pe_cCall (takes_of rfl rfl rfl rfl) (hr.mono (Nat.le_succ _)) (gf__possible_moves T) (by rfl) (pa_cons (pe_ix ix_c (cv 5) pe_int (fun _ _ => rfl)) (pa_cons (cv 3) pa_nil))) (by with_unfolding_all rfl)) (pss_one (ps_cRaise rfl (takes_of rfl rfl rfl rfl) (hr.mono (Nat.le_succ _)) (gf_InvalidInput T) (by rfl) (pa_cons pe_str pa_nil))) pss_nil)
  (pss_cons (ps_set (i := 5) sc_run_row.nd rfl (Or.inl rfl) (pe_cCall (takes_of rfl rfl rfl rfl) (hr.mono (Nat.le_succ _)) (gf__after_put T) (by rfl) (pa_cons (cv 0) (pa_cons (cv 5) (pa_cons (cv 7) (pa_cons (cv 2) (pa_cons (cv 4) pa_nil)))))))
  (pss_cons (ps_if (ptc op_cIs (cv 5) pe_non (nomark _)) (pss_one ps_break) pss_nil)
  (pss_one (ps_expr (pe_cApp (cv 6) (pa_cons (pe_ix ix_c (cv 5) pe_int (fun _ _ => rfl)) pa_nil))))))))
  (pss_one (ps_ret (cv 6)))))))
theorem ok_run_row {g : Wd} (T : Top g) {fd : FuncData} (F : FunD g.K "run_row" "run_row" (defArgs (top 26)) (defBody (top 26)) (defScope (top 26)) [] [] (gad g.K "run_row") fd) {j : Nat} {sp : Sp} (h : ∀ vs H Q E, sp vs H Q E → vs.length = 5 ∧ rd_run_row g j E { nx := fun _ H1 => Q .non H1, rt := Q } (L2.start ["keeper", "row", "places", "limit", "budgets", "standing", "words", "move"] vs) H) : FnOk g.P g.w g.K g.mg g.base (L2.CX g.P g.w) (j + 2) (gad g.K "run_row") fd ["keeper", "row", "places", "limit", "budgets"] sp :=
  FunD.ok F sc_run_row (fun vs H Q E hh => (h vs H Q E hh).1) fun cdv A outer s H vs Q E hr hh => ⟨rd_run_row g j E, dv_run_row T hr, (h vs H Q E hh).2⟩
theorem fk_run_row {g : Wd} (T : Top g) (j : Nat) {sp : Sp} (h : ∀ vs H Q E, sp vs H Q E → vs.length = 5 ∧ rd_run_row g j E { nx := fun _ H1 => Q .non H1, rt := Q } (L2.start ["keeper", "row", "places", "limit", "budgets", "standing", "words", "move"] vs) H) : FnG g (j + 2) (gad g.K "run_row") sp := by
  obtain ⟨fd, F⟩ := fd_run_row T
  exact fnG_of (ok_run_row T F h) (FunD.bindsN F fun _ _ _ _ _ _ us hl => match us, hl with | [_, _, _, _, _], _ => rfl)
theorem sc__search : FnScope ["keeper", "places", "limit", "budgets", "whole", "start", "origins", "queue", "stall", "looked", "standing", "move", "reached"] ["keeper", "places", "limit", "budgets", "whole"] (defScope (top 27)) := ⟨rfl, rfl, rfl, by decide +kernel, rfl, by decide +kernel, by decide +kernel⟩
def rd__search (g : Wd) (j : Nat) (E : XK) : TS :=
  tSeq (tAsg (tTup (tCons (tC (.str "")) (tCons (tC (.int 0)) (tNil)))) (gName 5))
  (tSeq (tAsg (tDNewT) (gName 6))
  (tSeq (sDPut' (cV 6) (cV 5) (tC .non))
  (tSeq (tAsg (tLst (tCons (cV 5) (tNil))) (gName 7))
  (tSeq (tAsg (tC .non) (gName 8))
  (tSeq (tAsg (tC (.int 0)) (gName 9))
  (tSeq (tWhile (tAnd (cTest (tOp cLt (cV 9) (tCB (cLen g j) (tCons (cV 7) (tNil))))) (tOr (cTru g.K (cV 4)) (cTest (tOp (cIsN false) (cV 8) (tC .non))))) (tSeq (tAsg (tOp (cIx g.K) (cV 7) (cV 9)) (gName 10))
  (tSeq (tAug 9 (tC (.int 1)) (ipI fun i j => i + j))
  (tFor (iSeq g.K (cCall g j (fun cls d _ H => E cls d H) (gad g.K "_possible_moves") (tCons (tOp (cIx g.K) (cV 10) (tC (.int 0))) (tCons (cV 2) (tNil))))) (gName 11) (tSeq (tAsg (cCall g j (fun cls d _ H => E cls d H) (gad g.K "_after_put") (tCons (cV 0) (tCons (cV 10) (tCons (cV 11) (tCons (cV 1) (tCons (cV 3) (tNil))))))) (gName 12))
  (tIfS (cTest (tOp (cIsN false) (cV 12) (tC .non))) (tIfS (cTest (tOp (cIsN false) (cV 8) (tC .non))) (tAsg (tTup (tCons (cV 10) (tCons (cV 11) (tNil)))) (gName 8)) (tNext)) (tIfS (tDIn' true (cV 12) (cV 6)) (tSeq (sDPut' (cV 6) (cV 12) (tTup (tCons (cV 10) (tCons (cV 11) (tNil)))))
  (tDrop (cApp g.K (cV 7) (tCons (cV 12) (tNil))))) (tNext))))))))
  (tRet (tTup (tCons (cV 6) (tCons (cV 8) (tNil)))))))))))
theorem dv__search {g : Wd} (T : Top g) {j : Nat} {f : Addr} {cdv : Value} {A : Around} {outer : List Env} {s : Shared} {H : Hp} {E : XK} (hr : Room (j + 1) (A.deeper (envOfC "_search" (defScope (top 27)) s.heap.objs.size f cdv))) :
    PSs (cxOf (L2.CX g.P g.w) g.P g.w g.K g.mg g.base ["keeper", "places", "limit", "budgets", "whole", "start", "origins", "queue", "stall", "looked", "standing", "move", "reached"] "_search" (defScope (top 27)) f cdv A outer s H E) (defBody (top 27)) (rd__search g j E) := by
  unfold rd__search
  exact (pss_cons (ps_set (i := 5) sc__search.nd rfl (Or.inl rfl) (pe_tup (pa_cons pe_str (pa_cons pe_int pa_nil))))
  (pss_cons (ps_set (i := 6) sc__search.nd rfl (Or.inl rfl) pe_dnewT)
  (pss_cons (ps_cDPut hr.units (cv 6) (cv 5) pe_non)
  (pss_cons (ps_set (i := 7) sc__search.nd rfl (Or.inl rfl) (pe_lst (pa_cons (cv 5) pa_nil)))
  (pss_cons (ps_set (i := 8) sc__search.nd rfl (Or.inl rfl) pe_non)
  (pss_cons (ps_set (i := 9) sc__search.nd rfl (Or.inl rfl) pe_int)
  (pss_cons (ps_while (passes_of rfl) (pw_and (ptc op_cLt (cv 9) (pe_callB (call_cLen hr) (by rfl) (bl_len T) bt_len (pa_cons (cv 7) pa_nil)) (nomark _)) (pw_and1 (pw_or (ptv (cv 4)) (pw_or1 (ptc op_cIs (cv 8) pe_non (nomark _)))).pt)).pt (pss_cons (ps_set (i := 10) sc__search.nd rfl (Or.inl rfl) (pe_ix ix_c (cv 7) (cv 9) (fun _ _ => rfl)))
  (pss_cons (ps_aug (i := 9) sc__search.nd rfl (Or.inl rfl) pe_int ip_add)
  (pss_one (ps_for (passes_of rfl) rfl (pi_seq (pe_cCall (takes_of rfl rfl rfl rfl) (hr.mono (Nat.le_succ _)) (gf__possible_moves T) (by rfl) (pa_cons (pe_ix ix_c (cv 10) pe_int (fun _ _ => rfl)) (pa_cons (cv 2) pa_nil)))) (pg_name sc__search.nd rfl (Or.inl rfl)) (pss_cons (ps_set (i := 12) sc__search.nd rfl (Or.inl rfl) (pe_cCall (takes_of rfl rfl rfl rfl) (hr.mono (Nat.le_succ _)) (gf__after_put T) (by rfl) (pa_cons (cv 0) (pa_cons (cv 10) (pa_cons (cv 11) (pa_cons (cv 1) (pa_cons (cv 3) pa_nil)))))))
  (pss_one (ps_if (ptc op_cIs (cv 12) pe_non (nomark _)) (pss_one (ps_if (ptc op_cIs (cv 8) pe_non (nomark _)) (pss_one (ps_set (i := 8) sc__search.nd rfl (Or.inl rfl) (pe_tup (pa_cons (cv 10) (pa_cons (cv 11) pa_nil))))) pss_nil)) (pss_one (ps_if (pt_cDNotIn hr.units (cv 12) (cv 6) (by with_unfolding_all rfl)) (pss_cons (ps_cDPut hr.units (cv 6) (cv 12) (pe_tup (pa_cons (cv 10) (pa_cons (cv 11) pa_nil))))
  (pss_one (ps_expr (pe_cApp (cv 7) (pa_cons (cv 12) pa_nil))))) pss_nil))))))))))
  (pss_one (ps_ret (pe_tup (pa_cons (cv 6) (pa_cons (cv 8) pa_nil))))))))))))
theorem ok__search {g : Wd} (T : Top g) {fd : FuncData} (F : FunD g.K "_search" "_search" (defArgs (top 27)) (defBody (top 27)) (defScope (top 27)) [] [] (gad g.K "_search") fd) {j : Nat} {sp : Sp} (h : ∀ vs H Q E, sp vs H Q E → vs.length = 5 ∧ rd__search g j E { nx := fun _ H1 => Q .non H1, rt := Q } (L2.start ["keeper", "places", "limit", "budgets", "whole", "start", "origins", "queue", "stall", "looked", "standing", "move", "reached"] vs) H) : FnOk g.P g.w g.K g.mg g.base (L2.CX g.P g.w) (j + 2) (gad g.K "_search") fd ["keeper", "places", "limit", "budgets", "whole"] sp :=
  FunD.ok F sc__search (fun vs H Q E hh => (h vs H Q E hh).1) fun cdv A outer s H vs Q E hr hh => ⟨rd__search g j E, dv__search T hr, (h vs H Q E hh).2⟩
theorem sc_worst_row : FnScope ["keeper", "places", "limit", "budgets", "origins", "stall", "standing", "move", "backwards"] ["keeper", "places", "limit", "budgets"] (defScope (top 28)) := ⟨rfl, rfl, rfl, by decide +kernel, rfl, by decide +kernel, by decide +kernel⟩
def rd_worst_row (g : Wd) (j : Nat) (E : XK) : TS :=
  tSeq (tDrop (cCall g j (fun cls d _ H => E cls d H) (gad g.K "_check_terms") (tCons (cV 1) (tCons (cV 2) (tNil)))))
  (tSeq (tAsg (cCallK g j (fun cls d _ H => E cls d H) (gad g.K "_search") ["whole"] (tCons (cV 0) (tCons (cV 1) (tCons (cV 2) (tCons (cV 3) (tNil))))) (tCons (tC (.bl false)) (tNil))) (cgTup g.K 2 (cgCons (gName 4) (cgCons (gName 5) (cgNil)))))
  (tSeq (tIfS (cTest (tOp (cIsN false) (cV 5) (tC .non))) (tRet (tC .non)) (tNext))
  (tSeq (tAsg (cV 5) (cgTup g.K 2 (cgCons (gName 6) (cgCons (gName 7) (cgNil)))))
  (tSeq (tAsg (tLst (tCons (cV 7) (tNil))) (gName 8))
  (tSeq (tWhile (cTest (tOp (cIsN true) (cDGet (cV 4) (cV 6)) (tC .non))) (tSeq (tAsg (cDGet (cV 4) (cV 6)) (cgTup g.K 2 (cgCons (gName 6) (cgCons (gName 7) (cgNil)))))
  (tDrop (cApp g.K (cV 8) (tCons (cV 7) (tNil))))))
  (tRet (cRev g.K (cV 8))))))))
theorem dv_worst_row {g : Wd} (T : Top g) {j : Nat} {f : Addr} {cdv : Value} {A : Around} {outer : List Env} {s : Shared} {H : Hp} {E : XK} (hr : Room (j + 1) (A.deeper (envOfC "worst_row" (defScope (top 28)) s.heap.objs.size f cdv))) :
    PSs (cxOf (L2.CX g.P g.w) g.P g.w g.K g.mg g.base ["keeper", "places", "limit", "budgets", "origins", "stall", "standing", "move", "backwards"] "worst_row" (defScope (top 28)) f cdv A outer s H E) (defBody (top 28)) (rd_worst_row g j E) := by
  unfold rd_worst_row
  exact (pss_cons (ps_expr (pe_cCall (takes_of rfl rfl rfl rfl) (hr.mono (Nat.le_succ _)) (gf__check_terms T) (by rfl) (pa_cons (cv 1) (pa_cons (cv 2) pa_nil))))
  (pss_cons (ps_asg (pe_cCallK (takes_of rfl rfl rfl rfl) (hr.mono (Nat.le_succ _)) (gf__search T) (by rfl) (pa_cons (cv 0) (pa_cons (cv 1) (pa_cons (cv 2) (pa_cons (cv 3) pa_nil)))) (pk_cons pe_bl pk_nil)) (pg_ctup rfl (pgs_ccons (pg_name sc_worst_row.nd rfl (Or.inl rfl)) (pgs_ccons (pg_name sc_worst_row.nd rfl (Or.inl rfl)) pgs_cnil))))
  (pss_cons (ps_if (ptc op_cIs (cv 5) pe_non (nomark _)) (pss_one (ps_ret pe_non)) pss_nil)
  (pss_cons (ps_asg (cv 5) (pg_ctup rfl (pgs_ccons (pg_name sc_worst_row.nd rfl (Or.inl rfl)) (pgs_ccons (pg_name sc_worst_row.nd rfl (Or.inl rfl)) pgs_cnil))))
  (pss_cons (ps_set (i := 8) sc_worst_row.nd rfl (Or.inl rfl) (pe_lst (pa_cons (cv 7) pa_nil)))
  (pss_cons (ps_while (passes_of rfl) (ptc op_cIsNot (pe_cDGet hr.units (cv 4) (cv 6) (fun _ _ => rfl)) pe_non (nomark _)) (pss_cons (ps_asg (pe_cDGet hr.units (cv 4) (cv 6) (fun _ _ => rfl)) (pg_ctup rfl (pgs_ccons (pg_name sc_worst_row.nd rfl (Or.inl rfl)) (pgs_ccons (pg_name sc_worst_row.nd rfl (Or.inl rfl)) pgs_cnil))))
  (pss_one (ps_expr (pe_cApp (cv 8) (pa_cons (cv 7) pa_nil))))))
  (pss_one (ps_ret (pe_cRev (cv 8))))))))))
theorem ok_worst_row {g : Wd} (T : Top g) {fd : FuncData} (F : FunD g.K "worst_row" "worst_row" (defArgs (top 28)) (defBody (top 28)) (defScope (top 28)) [] [] (gad g.K "worst_row") fd) {j : Nat} {sp : Sp} (h : ∀ vs H Q E, sp vs H Q E → vs.length = 4 ∧ rd_worst_row g j E { nx := fun _ H1 => Q .non H1, rt := Q } (L2.start ["keeper", "places", "limit", "budgets", "origins", "stall", "standing", "move", "backwards"] vs) H) : FnOk g.P g.w g.K g.mg g.base (L2.CX g.P g.w) (j + 2) (gad g.K "worst_row") fd ["keeper", "places", "limit", "budgets"] sp :=
  FunD.ok F sc_worst_row (fun vs H Q E hh => (h vs H Q E hh).1) fun cdv A outer s H vs Q E hr hh => ⟨rd_worst_row g j E, dv_worst_row T hr, (h vs H Q E hh).2⟩
theorem fk_worst_row {g : Wd} (T : Top g) (j : Nat) {sp : Sp} (h : ∀ vs H Q E, sp vs H Q E → vs.length = 4 ∧ rd_worst_row g j E { nx := fun _ H1 => Q .non H1, rt := Q } (L2.start ["keeper", "places", "limit", "budgets", "origins", "stall", "standing", "move", "backwards"] vs) H) : FnG g (j + 2) (gad g.K "worst_row") sp := by
  obtain ⟨fd, F⟩ := fd_worst_row T
  exact fnG_of (ok_worst_row T F h) (FunD.bindsN F fun _ _ _ _ _ _ us hl => match us, hl with | [_, _, _, _], _ => rfl)
theorem sc__check_moment : FnScope ["word", "places", "phase"] ["word", "places", "phase"] (defScope (top 30)) := ⟨rfl, rfl, rfl, by decide +kernel, rfl, by decide +kernel, by decide +kernel⟩
def rd__check_moment (g : Wd) (j : Nat) (E : XK) : TS :=
  tSeq (tDrop (cCall g j (fun cls d _ H => E cls d H) (gad g.K "good_word") (tCons (cV 0) (tCons (tC (.str "word")) (tNil)))))
  (tSeq (tDrop (cCall g j (fun cls d _ H => E cls d H) (gad g.K "at_least") (tCons (cV 1) (tCons (tC (.int 1)) (tCons (tC (.str "places")) (tNil))))))
  (tSeq (tDrop (cCall g j (fun cls d _ H => E cls d H) (gad g.K "at_least") (tCons (cV 2) (tCons (tC (.int 0)) (tCons (tC (.str "phase")) (tNil))))))
  (tDrop (cCall g j (fun cls d _ H => E cls d H) (gad g.K "at_least") (tCons (cV 1) (tCons (tCB (cLen g j) (tCons (cV 0) (tNil))) (tCons (tC (.str "places")) (tNil))))))))
theorem dv__check_moment {g : Wd} (T : Top g) {j : Nat} {f : Addr} {cdv : Value} {A : Around} {outer : List Env} {s : Shared} {H : Hp} {E : XK} (hr : Room (j + 1) (A.deeper (envOfC "_check_moment" (defScope (top 30)) s.heap.objs.size f cdv))) :
    PSs (cxOf (L2.CX g.P g.w) g.P g.w g.K g.mg g.base ["word", "places", "phase"] "_check_moment" (defScope (top 30)) f cdv A outer s H E) (defBody (top 30)) (rd__check_moment g j E) := by
  unfold rd__check_moment
  exact (pss_cons (ps_expr (pe_cCall (takes_of rfl rfl rfl rfl) (hr.mono (Nat.le_succ _)) (gf_good_word T) (by rfl) (pa_cons (cv 0) (pa_cons pe_str pa_nil))))
  (pss_cons (ps_expr (pe_cCall (takes_of rfl rfl rfl rfl) (hr.mono (Nat.le_succ _)) (gf_at_least T) (by rfl) (pa_cons (cv 1) (pa_cons pe_int (pa_cons pe_str pa_nil)))))
  (pss_cons (ps_expr (pe_cCall (takes_of rfl rfl rfl rfl) (hr.mono (Nat.le_succ _)) (gf_at_least T) (by rfl) (pa_cons (cv 2) (pa_cons pe_int (pa_cons pe_str pa_nil)))))
  (pss_one (ps_expr (pe_cCall (takes_of rfl rfl rfl rfl) (hr.mono (Nat.le_succ _)) (gf_at_least T) (by rfl) (pa_cons (cv 1) (pa_cons (pe_callB (call_cLen hr) (by rfl) (bl_len T) bt_len (pa_cons (cv 0) pa_nil)) (pa_cons pe_str pa_nil)))))))))
theorem ok__check_moment {g : Wd} (T : Top g) {fd : FuncData} (F : FunD g.K "_check_moment" "_check_moment" (defArgs (top 30)) (defBody (top 30)) (defScope (top 30)) [] [] (gad g.K "_check_moment") fd) {j : Nat} {sp : Sp} (h : ∀ vs H Q E, sp vs H Q E → vs.length = 3 ∧ rd__check_moment g j E { nx := fun _ H1 => Q .non H1, rt := Q } (L2.start ["word", "places", "phase"] vs) H) : FnOk g.P g.w g.K g.mg g.base (L2.CX g.P g.w) (j + 2) (gad g.K "_check_moment") fd ["word", "places", "phase"] sp :=
  FunD.ok F sc__check_moment (fun vs H Q E hh => (h vs H Q E hh).1) fun cdv A outer s H vs Q E hr hh => ⟨rd__check_moment g j E, dv__check_moment T hr, (h vs H Q E hh).2⟩
theorem fk__check_moment {g : Wd} (T : Top g) (j : Nat) {sp : Sp} (h : ∀ vs H Q E, sp vs H Q E → vs.length = 3 ∧ rd__check_moment g j E { nx := fun _ H1 => Q .non H1, rt := Q } (L2.start ["word", "places", "phase"] vs) H) : FnG g (j + 2) (gad g.K "_check_moment") sp := by
  obtain ⟨fd, F⟩ := fd__check_moment T
  exact fnG_of (ok__check_moment T F h) (FunD.bindsN F fun _ _ _ _ _ _ us hl => match us, hl with | [_, _, _], _ => rfl)
theorem sc__most_allowed : FnScope ["word", "places", "budgets", "phase"] ["word", "places", "budgets", "phase"] (defScope (top 31)) := ⟨rfl, rfl, rfl, by decide +kernel, rfl, by decide +kernel, by decide +kernel⟩
def rd__most_allowed (g : Wd) (j : Nat) (E : XK) : TS :=
  tSeq (tIfS (cTest (tOp (cEqN g.K false) (tCB (cLen g j) (tCons (cV 0) (tNil))) (cV 1))) (tRet (tC (.int 0))) (tNext))
  (tRet (tCB (cMin g.K) (tCons (cMeth g j (fun cls d _ H => E cls d H) "at" (cV 2) (tCons (cV 3) (tNil))) (tCons (cCall g j (fun cls d _ H => E cls d H) (gad g.K "living") (tCons (cV 0) (tNil))) (tNil)))))
theorem dv__most_allowed {g : Wd} (T : Top g) {j : Nat} {f : Addr} {cdv : Value} {A : Around} {outer : List Env} {s : Shared} {H : Hp} {E : XK} (hr : Room (j + 1) (A.deeper (envOfC "_most_allowed" (defScope (top 31)) s.heap.objs.size f cdv))) :
    PSs (cxOf (L2.CX g.P g.w) g.P g.w g.K g.mg g.base ["word", "places", "budgets", "phase"] "_most_allowed" (defScope (top 31)) f cdv A outer s H E) (defBody (top 31)) (rd__most_allowed g j E) := by
  unfold rd__most_allowed
  exact (pss_cons (ps_if (ptc (op_cEq hr.units) (pe_callB (call_cLen hr) (by rfl) (bl_len T) bt_len (pa_cons (cv 0) pa_nil)) (cv 1) (nomark _)) (pss_one (ps_ret pe_int)) pss_nil)
  (pss_one (ps_ret (pe_callB (call_cMin rfl) (by rfl) (bl_min T) bt_min (pa_cons (pe_cMeth (takes_of rfl rfl rfl rfl) (hr.mono (Nat.le_succ _)) (cv 2) (pa_cons (cv 3) pa_nil)) (pa_cons (pe_cCall (takes_of rfl rfl rfl rfl) (hr.mono (Nat.le_succ _)) (gf_living T) (by rfl) (pa_cons (cv 0) pa_nil)) pa_nil))))))
theorem ok__most_allowed {g : Wd} (T : Top g) {fd : FuncData} (F : FunD g.K "_most_allowed" "_most_allowed" (defArgs (top 31)) (defBody (top 31)) (defScope (top 31)) [] [] (gad g.K "_most_allowed") fd) {j : Nat} {sp : Sp} (h : ∀ vs H Q E, sp vs H Q E → vs.length = 4 ∧ rd__most_allowed g j E { nx := fun _ H1 => Q .non H1, rt := Q } (L2.start ["word", "places", "budgets", "phase"] vs) H) : FnOk g.P g.w g.K g.mg g.base (L2.CX g.P g.w) (j + 2) (gad g.K "_most_allowed") fd ["word", "places", "budgets", "phase"] sp :=
  FunD.ok F sc__most_allowed (fun vs H Q E hh => (h vs H Q E hh).1) fun cdv A outer s H vs Q E hr hh => ⟨rd__most_allowed g j E, dv__most_allowed T hr, (h vs H Q E hh).2⟩
theorem fk__most_allowed {g : Wd} (T : Top g) (j : Nat) {sp : Sp} (h : ∀ vs H Q E, sp vs H Q E → vs.length = 4 ∧ rd__most_allowed g j E { nx := fun _ H1 => Q .non H1, rt := Q } (L2.start ["word", "places", "budgets", "phase"] vs) H) : FnG g (j + 2) (gad g.K "_most_allowed") sp := by
  obtain ⟨fd, F⟩ := fd__most_allowed T
  exact fnG_of (ok__most_allowed T F h) (FunD.bindsN F fun _ _ _ _ _ _ us hl => match us, hl with | [_, _, _, _], _ => rfl)
theorem sc_Keeper_choose : FnScope ["self", "word", "places", "budgets", "phase"] ["self", "word", "places", "budgets", "phase"] (defScope (inClass (top 32) 0)) := ⟨rfl, rfl, rfl, by decide +kernel, rfl, by decide +kernel, by decide +kernel⟩
def rd_Keeper_choose (g : Wd) (j : Nat) (E : XK) : TS :=
  tSeq (tDrop (cCall g j (fun cls d _ H => E cls d H) (gad g.K "_check_moment") (tCons (cV 1) (tCons (cV 2) (tCons (cV 4) (tNil))))))
  (tRet (tC (.int 0)))
theorem dv_Keeper_choose {g : Wd} (T : Top g) {j : Nat} {f : Addr} {cdv : Value} {A : Around} {outer : List Env} {s : Shared} {H : Hp} {E : XK} (hr : Room (j + 1) (A.deeper (envOfC "Keeper.choose" (defScope (inClass (top 32) 0)) s.heap.objs.size f cdv))) :
    PSs (cxOf (L2.CX g.P g.w) g.P g.w g.K g.mg g.base ["self", "word", "places", "budgets", "phase"] "Keeper.choose" (defScope (inClass (top 32) 0)) f cdv A outer s H E) (defBody (inClass (top 32) 0)) (rd_Keeper_choose g j E) := by
  unfold rd_Keeper_choose
  exact (pss_cons (ps_expr (pe_cCall (takes_of rfl rfl rfl rfl) (hr.mono (Nat.le_succ _)) (gf__check_moment T) (by rfl) (pa_cons (cv 1) (pa_cons (cv 2) (pa_cons (cv 4) pa_nil)))))
  (pss_one (ps_ret pe_int)))
theorem ok_Keeper_choose {g : Wd} (T : Top g) {fd : FuncData} (F : FunD g.K "choose" "Keeper.choose" (defArgs (inClass (top 32) 0)) (defBody (inClass (top 32) 0)) (defScope (inClass (top 32) 0)) [] [] (mad g.K (gad g.K "Keeper") "choose") fd) {j : Nat} {sp : Sp} (h : ∀ vs H Q E, sp vs H Q E → vs.length = 5 ∧ rd_Keeper_choose g j E { nx := fun _ H1 => Q .non H1, rt := Q } (L2.start ["self", "word", "places", "budgets", "phase"] vs) H) : FnOk g.P g.w g.K g.mg g.base (L2.CX g.P g.w) (j + 2) (mad g.K (gad g.K "Keeper") "choose") fd ["self", "word", "places", "budgets", "phase"] sp :=
  FunD.ok F sc_Keeper_choose (fun vs H Q E hh => (h vs H Q E hh).1) fun cdv A outer s H vs Q E hr hh => ⟨rd_Keeper_choose g j E, dv_Keeper_choose T hr, (h vs H Q E hh).2⟩
theorem fk_Keeper_choose {g : Wd} (T : Top g) (j : Nat) {sp : Sp} (h : ∀ vs H Q E, sp vs H Q E → vs.length = 5 ∧ rd_Keeper_choose g j E { nx := fun _ H1 => Q .non H1, rt := Q } (L2.start ["self", "word", "places", "budgets", "phase"] vs) H) : FnG g (j + 2) (mad g.K (gad g.K "Keeper") "choose") sp := by
  obtain ⟨fd, F⟩ := fd_Keeper_choose T
  exact fnG_of (ok_Keeper_choose T F h) (FunD.bindsN F fun _ _ _ _ _ _ us hl => match us, hl with | [_, _, _, _, _], _ => rfl)
theorem sc_Lazy_init_ : FnScope ["self", "mark"] ["self", "mark"] (defScope (inClass (top 33) 0)) := ⟨rfl, rfl, rfl, by decide +kernel, rfl, by decide +kernel, by decide +kernel⟩
def rd_Lazy_init_ (g : Wd) (j : Nat) (E : XK) : TS :=
  tSeq (tDrop (cCall g j (fun cls d _ H => E cls d H) (gad g.K "at_least") (tCons (cV 1) (tCons (tC (.int 0)) (tCons (tC (.str "mark")) (tNil))))))
  (cSetF g.K (cV 0) (cV 1) "_mark")
theorem dv_Lazy_init_ {g : Wd} (T : Top g) {j : Nat} {f : Addr} {cdv : Value} {A : Around} {outer : List Env} {s : Shared} {H : Hp} {E : XK} (hr : Room (j + 1) (A.deeper (envOfC "Lazy.__init__" (defScope (inClass (top 33) 0)) s.heap.objs.size f cdv))) :
    PSs (cxOf (L2.CX g.P g.w) g.P g.w g.K g.mg g.base ["self", "mark"] "Lazy.__init__" (defScope (inClass (top 33) 0)) f cdv A outer s H E) (defBody (inClass (top 33) 0)) (rd_Lazy_init_ g j E) := by
  unfold rd_Lazy_init_
  exact (pss_cons (ps_expr (pe_cCall (takes_of rfl rfl rfl rfl) (hr.mono (Nat.le_succ _)) (gf_at_least T) (by rfl) (pa_cons (cv 1) (pa_cons pe_int (pa_cons pe_str pa_nil)))))
  (pss_one (ps_cSetF (cv 0) (cv 1))))
theorem ok_Lazy_init_ {g : Wd} (T : Top g) {fd : FuncData} (F : FunD g.K "__init__" "Lazy.__init__" (defArgs (inClass (top 33) 0)) (defBody (inClass (top 33) 0)) (defScope (inClass (top 33) 0)) [] [] (mad g.K (gad g.K "Lazy") "__init__") fd) {j : Nat} {sp : Sp} (h : ∀ vs H Q E, sp vs H Q E → vs.length = 2 ∧ rd_Lazy_init_ g j E { nx := fun _ H1 => Q .non H1, rt := Q } (L2.start ["self", "mark"] vs) H) : FnOk g.P g.w g.K g.mg g.base (L2.CX g.P g.w) (j + 2) (mad g.K (gad g.K "Lazy") "__init__") fd ["self", "mark"] sp :=
  FunD.ok F sc_Lazy_init_ (fun vs H Q E hh => (h vs H Q E hh).1) fun cdv A outer s H vs Q E hr hh => ⟨rd_Lazy_init_ g j E, dv_Lazy_init_ T hr, (h vs H Q E hh).2⟩
theorem fk_Lazy_init_ {g : Wd} (T : Top g) (j : Nat) {sp : Sp} (h : ∀ vs H Q E, sp vs H Q E → vs.length = 2 ∧ rd_Lazy_init_ g j E { nx := fun _ H1 => Q .non H1, rt := Q } (L2.start ["self", "mark"] vs) H) : FnG g (j + 2) (mad g.K (gad g.K "Lazy") "__init__") sp := by
  obtain ⟨fd, F⟩ := fd_Lazy_init_ T
  exact fnG_of (ok_Lazy_init_ T F h) (FunD.bindsN F fun _ _ _ _ _ _ us hl => match us, hl with | [_, _], _ => rfl)
theorem sc_Lazy_mark : FnScope ["self"] ["self"] (defScope (inClass (top 33) 1)) := ⟨rfl, rfl, rfl, by decide +kernel, rfl, by decide +kernel, by decide +kernel⟩
def rd_Lazy_mark (g : Wd) (j : Nat) (E : XK) : TS :=
  tRet (cFld g.K (cV 0) "_mark")
theorem dv_Lazy_mark {g : Wd} (T : Top g) {j : Nat} {f : Addr} {cdv : Value} {A : Around} {outer : List Env} {s : Shared} {H : Hp} {E : XK} (hr : Room (j + 1) (A.deeper (envOfC "Lazy.mark" (defScope (inClass (top 33) 1)) s.heap.objs.size f cdv))) :
    PSs (cxOf (L2.CX g.P g.w) g.P g.w g.K g.mg g.base ["self"] "Lazy.mark" (defScope (inClass (top 33) 1)) f cdv A outer s H E) (defBody (inClass (top 33) 1)) (rd_Lazy_mark g j E) := by
  unfold rd_Lazy_mark
  exact (pss_one (ps_ret (pe_cFld (cv 0))))
theorem ok_Lazy_mark {g : Wd} (T : Top g) {fd : FuncData} (F : FunD g.K "mark" "Lazy.mark" (defArgs (inClass (top 33) 1)) (defBody (inClass (top 33) 1)) (defScope (inClass (top 33) 1)) [] [] (pgt g.K "Lazy" "mark") fd) {j : Nat} {sp : Sp} (h : ∀ vs H Q E, sp vs H Q E → vs.length = 1 ∧ rd_Lazy_mark g j E { nx := fun _ H1 => Q .non H1, rt := Q } (L2.start ["self"] vs) H) : FnOk g.P g.w g.K g.mg g.base (L2.CX g.P g.w) (j + 2) (pgt g.K "Lazy" "mark") fd ["self"] sp :=
  FunD.ok F sc_Lazy_mark (fun vs H Q E hh => (h vs H Q E hh).1) fun cdv A outer s H vs Q E hr hh => ⟨rd_Lazy_mark g j E, dv_Lazy_mark T hr, (h vs H Q E hh).2⟩
theorem fk_Lazy_mark {g : Wd} (T : Top g) (j : Nat) {sp : Sp} (h : ∀ vs H Q E, sp vs H Q E → vs.length = 1 ∧ rd_Lazy_mark g j E { nx := fun _ H1 => Q .non H1, rt := Q } (L2.start ["self"] vs) H) : FnG g (j + 2) (pgt g.K "Lazy" "mark") sp := by
  obtain ⟨fd, F⟩ := fd_Lazy_mark T
  exact fnG_of (ok_Lazy_mark T F h) (FunD.bindsN F fun _ _ _ _ _ _ us hl => match us, hl with | [_], _ => rfl)
theorem sc_Lazy_set_mark : FnScope ["self", "mark"] ["self", "mark"] (defScope (inClass (top 33) 3)) := ⟨rfl, rfl, rfl, by decide +kernel, rfl, by decide +kernel, by decide +kernel⟩
def rd_Lazy_set_mark (g : Wd) (j : Nat) (E : XK) : TS :=
  tSeq (tDrop (cCall g j (fun cls d _ H => E cls d H) (gad g.K "at_least") (tCons (cV 1) (tCons (tC (.int 0)) (tCons (tC (.str "mark")) (tNil))))))
  (cSetF g.K (cV 0) (cV 1) "_mark")
theorem dv_Lazy_set_mark {g : Wd} (T : Top g) {j : Nat} {f : Addr} {cdv : Value} {A : Around} {outer : List Env} {s : Shared} {H : Hp} {E : XK} (hr : Room (j + 1) (A.deeper (envOfC "Lazy.set_mark" (defScope (inClass (top 33) 3)) s.heap.objs.size f cdv))) :
    PSs (cxOf (L2.CX g.P g.w) g.P g.w g.K g.mg g.base ["self", "mark"] "Lazy.set_mark" (defScope (inClass (top 33) 3)) f cdv A outer s H E) (defBody (inClass (top 33) 3)) (rd_Lazy_set_mark g j E) := by
  unfold rd_Lazy_set_mark
  exact (pss_cons (ps_expr (pe_cCall (takes_of rfl rfl rfl rfl) (hr.mono (Nat.le_succ _)) (gf_at_least T) (by rfl) (pa_cons (cv 1) (pa_cons pe_int (pa_cons pe_str pa_nil)))))
  (pss_one (ps_cSetF (cv 0) (cv 1))))
theorem ok_Lazy_set_mark {g : Wd} (T : Top g) {fd : FuncData} (F : FunD g.K "set_mark" "Lazy.set_mark" (defArgs (inClass (top 33) 3)) (defBody (inClass (top 33) 3)) (defScope (inClass (top 33) 3)) [] [] (mad g.K (gad g.K "Lazy") "set_mark") fd) {j : Nat} {sp : Sp} (h : ∀ vs H Q E, sp vs H Q E → vs.length = 2 ∧ rd_Lazy_set_mark g j E { nx := fun _ H1 => Q .non H1, rt := Q } (L2.start ["self", "mark"] vs) H) : FnOk g.P g.w g.K g.mg g.base (L2.CX g.P g.w) (j + 2) (mad g.K (gad g.K "Lazy") "set_mark") fd ["self", "mark"] sp :=
  FunD.ok F sc_Lazy_set_mark (fun vs H Q E hh => (h vs H Q E hh).1) fun cdv A outer s H vs Q E hr hh => ⟨rd_Lazy_set_mark g j E, dv_Lazy_set_mark T hr, (h vs H Q E hh).2⟩
theorem fk_Lazy_set_mark {g : Wd} (T : Top g) (j : Nat) {sp : Sp} (h : ∀ vs H Q E, sp vs H Q E → vs.length = 2 ∧ rd_Lazy_set_mark g j E { nx := fun _ H1 => Q .non H1, rt := Q } (L2.start ["self", "mark"] vs) H) : FnG g (j + 2) (mad g.K (gad g.K "Lazy") "set_mark") sp := by
  obtain ⟨fd, F⟩ := fd_Lazy_set_mark T
  exact fnG_of (ok_Lazy_set_mark T F h) (FunD.bindsN F fun _ _ _ _ _ _ us hl => match us, hl with | [_, _], _ => rfl)
theorem sc_Lazy_choose : FnScope ["self", "word", "places", "budgets", "phase"] ["self", "word", "places", "budgets", "phase"] (defScope (inClass (top 33) 4)) := ⟨rfl, rfl, rfl, by decide +kernel, rfl, by decide +kernel, by decide +kernel⟩
def rd_Lazy_choose (g : Wd) (j : Nat) (E : XK) : TS :=
  tSeq (tDrop (cCall g j (fun cls d _ H => E cls d H) (gad g.K "_check_moment") (tCons (cV 1) (tCons (cV 2) (tCons (cV 4) (tNil))))))
  (tSeq (tIfS (cTest (tOp cGt (tOp cSub (cV 2) (tCB (cLen g j) (tCons (cV 1) (tNil)))) (cFld g.K (cV 0) "_mark"))) (tRet (tC (.int 0))) (tNext))
  (tRet (cCall g j (fun cls d _ H => E cls d H) (gad g.K "_most_allowed") (tCons (cV 1) (tCons (cV 2) (tCons (cV 3) (tCons (cV 4) (tNil))))))))
theorem dv_Lazy_choose {g : Wd} (T : Top g) {j : Nat} {f : Addr} {cdv : Value} {A : Around} {outer : List Env} {s : Shared} {H : Hp} {E : XK} (hr : Room (j + 1) (A.deeper (envOfC "Lazy.choose" (defScope (inClass (top 33) 4)) s.heap.objs.size f cdv))) :
    PSs (cxOf (L2.CX g.P g.w) g.P g.w g.K g.mg g.base ["self", "word", "places", "budgets", "phase"] "Lazy.choose" (defScope (inClass (top 33) 4)) f cdv A outer s H E) (defBody (inClass (top 33) 4)) (rd_Lazy_choose g j E) := by
  unfold rd_Lazy_choose
  exact (pss_cons (ps_expr (pe_cCall (takes_of rfl rfl rfl rfl) (hr.mono (Nat.le_succ _)) (gf__check_moment T) (by rfl) (pa_cons (cv 1) (pa_cons (cv 2) (pa_cons (cv 4) pa_nil)))))
  (pss_cons (ps_if (ptc op_cGt (pe_op op_cSub (cv 2) (pe_callB (call_cLen hr) (by rfl) (bl_len T) bt_len (pa_cons (cv 1) pa_nil))) (pe_cFld (cv 0)) (nomark _)) (pss_one (ps_ret pe_int)) pss_nil)
  (pss_one (ps_ret (pe_cCall (takes_of rfl rfl rfl rfl) (hr.mono (Nat.le_succ _)) (gf__most_allowed T) (by rfl) (pa_cons (cv 1) (pa_cons (cv 2) (pa_cons (cv 3) (pa_cons (cv 4) pa_nil)))))))))
theorem ok_Lazy_choose {g : Wd} (T : Top g) {fd : FuncData} (F : FunD g.K "choose" "Lazy.choose" (defArgs (inClass (top 33) 4)) (defBody (inClass (top 33) 4)) (defScope (inClass (top 33) 4)) [] [] (mad g.K (gad g.K "Lazy") "choose") fd) {j : Nat} {sp : Sp} (h : ∀ vs H Q E, sp vs H Q E → vs.length = 5 ∧ rd_Lazy_choose g j E { nx := fun _ H1 => Q .non H1, rt := Q } (L2.start ["self", "word", "places", "budgets", "phase"] vs) H) : FnOk g.P g.w g.K g.mg g.base (L2.CX g.P g.w) (j + 2) (mad g.K (gad g.K "Lazy") "choose") fd ["self", "word", "places", "budgets", "phase"] sp :=
  FunD.ok F sc_Lazy_choose (fun vs H Q E hh => (h vs H Q E hh).1) fun cdv A outer s H vs Q E hr hh => ⟨rd_Lazy_choose g j E, dv_Lazy_choose T hr, (h vs H Q E hh).2⟩
theorem fk_Lazy_choose {g : Wd} (T : Top g) (j : Nat) {sp : Sp} (h : ∀ vs H Q E, sp vs H Q E → vs.length = 5 ∧ rd_Lazy_choose g j E { nx := fun _ H1 => Q .non H1, rt := Q } (L2.start ["self", "word", "places", "budgets", "phase"] vs) H) : FnG g (j + 2) (mad g.K (gad g.K "Lazy") "choose") sp := by
  obtain ⟨fd, F⟩ := fd_Lazy_choose T
  exact fnG_of (ok_Lazy_choose T F h) (FunD.bindsN F fun _ _ _ _ _ _ us hl => match us, hl with | [_, _, _, _, _], _ => rfl)
theorem sc_Round_init_ : FnScope ["self", "budgets", "budget"] ["self", "budgets"] (defScope (inClass (top 35) 1)) := ⟨rfl, rfl, rfl, by decide +kernel, rfl, by decide +kernel, by decide +kernel⟩
def rd_Round_init_ (g : Wd) (j : Nat) (E : XK) : TS :=
  tSeq (tIfS (tNot (cTest (cChain cLe cLe (tC (.int 1)) (tCB (cLen g j) (tCons (cV 1) (tNil))) (cCv g.K (cGv g "Round") "MOST")))) (cRaise (cRais g j (gad g.K "InvalidInput") (tCons (tC (.str "budgets")) (tNil))) (fun cls d _ H => E cls d H)) (tNext))
  (tSeq (tFor (iSeq g.K (cV 1)) (gName 2) (tSeq (tDrop (cCall g j (fun cls d _ H => E cls d H) (gad g.K "whole_number") (tCons (cV 2) (tCons (tC (.str "budgets")) (tNil)))))
  (tDrop (cCall g j (fun cls d _ H => E cls d H) (gad g.K "at_least") (tCons (cV 2) (tCons (tC (.int 0)) (tCons (tC (.str "budgets")) (tNil))))))))
  (cSetF g.K (cV 0) (tCB (cTuple g.K) (tCons (cV 1) (tNil))) "_budgets"))
theorem dv_Round_init_ {g : Wd} (T : Top g) {j : Nat} {f : Addr} {cdv : Value} {A : Around} {outer : List Env} {s : Shared} {H : Hp} {E : XK} (hr : Room (j + 1) (A.deeper (envOfC "Round.__init__" (defScope (inClass (top 35) 1)) s.heap.objs.size f cdv))) :
    PSs (cxOf (L2.CX g.P g.w) g.P g.w g.K g.mg g.base ["self", "budgets", "budget"] "Round.__init__" (defScope (inClass (top 35) 1)) f cdv A outer s H E) (defBody (inClass (top 35) 1)) (rd_Round_init_ g j E) := by
  unfold rd_Round_init_
  exact (pss_cons (ps_if (pt_not (ptc2 op_cLe op_cLe pe_int (pe_callB (call_cLen hr) (by rfl) (bl_len T) bt_len (pa_cons (cv 1) pa_nil)) (pe_cCv (pe_cGv (by rfl))))) (pss_one (ps_cRaise rfl (takes_of rfl rfl rfl rfl) (hr.mono (Nat.le_succ _)) (gf_InvalidInput T) (by rfl) (pa_cons pe_str pa_nil))) pss_nil)
  (pss_cons (ps_for (passes_of rfl) rfl (pi_seq (cv 1)) (pg_name sc_Round_init_.nd rfl (Or.inl rfl)) (pss_cons (ps_expr (pe_cCall (takes_of rfl rfl rfl rfl) (hr.mono (Nat.le_succ _)) (gf_whole_number T) (by rfl) (pa_cons (cv 2) (pa_cons pe_str pa_nil))))
  (pss_one (ps_expr (pe_cCall (takes_of rfl rfl rfl rfl) (hr.mono (Nat.le_succ _)) (gf_at_least T) (by rfl) (pa_cons (cv 2) (pa_cons pe_int (pa_cons pe_str pa_nil))))))))
  (pss_one (ps_cSetF (cv 0) (pe_callTy (call_cTuple) (by rfl) (bl_tuple T) bt_tuple (pa_cons (cv 1) pa_nil))))))
theorem sc_Round_budgets : FnScope ["self"] ["self"] (defScope (inClass (top 35) 3)) := ⟨rfl, rfl, rfl, by decide +kernel, rfl, by decide +kernel, by decide +kernel⟩
def rd_Round_budgets (g : Wd) (j : Nat) (E : XK) : TS :=
  tRet (tCB (cList g.K) (tCons (cFld g.K (cV 0) "_budgets") (tNil)))
theorem dv_Round_budgets {g : Wd} (T : Top g) {j : Nat} {f : Addr} {cdv : Value} {A : Around} {outer : List Env} {s : Shared} {H : Hp} {E : XK} (hr : Room (j + 1) (A.deeper (envOfC "Round.budgets" (defScope (inClass (top 35) 3)) s.heap.objs.size f cdv))) :
    PSs (cxOf (L2.CX g.P g.w) g.P g.w g.K g.mg g.base ["self"] "Round.budgets" (defScope (inClass (top 35) 3)) f cdv A outer s H E) (defBody (inClass (top 35) 3)) (rd_Round_budgets g j E) := by
  unfold rd_Round_budgets
  exact (pss_one (ps_ret (pe_callTy (call_cList) (by rfl) (bl_list T) bt_list (pa_cons (pe_cFld (cv 0)) pa_nil))))
theorem ok_Round_budgets {g : Wd} (T : Top g) {fd : FuncData} (F : FunD g.K "budgets" "Round.budgets" (defArgs (inClass (top 35) 3)) (defBody (inClass (top 35) 3)) (defScope (inClass (top 35) 3)) [] [] (pgt g.K "Round" "budgets") fd) {j : Nat} {sp : Sp} (h : ∀ vs H Q E, sp vs H Q E → vs.length = 1 ∧ rd_Round_budgets g j E { nx := fun _ H1 => Q .non H1, rt := Q } (L2.start ["self"] vs) H) : FnOk g.P g.w g.K g.mg g.base (L2.CX g.P g.w) (j + 2) (pgt g.K "Round" "budgets") fd ["self"] sp :=
  FunD.ok F sc_Round_budgets (fun vs H Q E hh => (h vs H Q E hh).1) fun cdv A outer s H vs Q E hr hh => ⟨rd_Round_budgets g j E, dv_Round_budgets T hr, (h vs H Q E hh).2⟩
theorem fk_Round_budgets {g : Wd} (T : Top g) (j : Nat) {sp : Sp} (h : ∀ vs H Q E, sp vs H Q E → vs.length = 1 ∧ rd_Round_budgets g j E { nx := fun _ H1 => Q .non H1, rt := Q } (L2.start ["self"] vs) H) : FnG g (j + 2) (pgt g.K "Round" "budgets") sp := by
  obtain ⟨fd, F⟩ := fd_Round_budgets T
  exact fnG_of (ok_Round_budgets T F h) (FunD.bindsN F fun _ _ _ _ _ _ us hl => match us, hl with | [_], _ => rfl)
theorem sc_Round_len_ : FnScope ["self"] ["self"] (defScope (inClass (top 35) 4)) := ⟨rfl, rfl, rfl, by decide +kernel, rfl, by decide +kernel, by decide +kernel⟩
def rd_Round_len_ (g : Wd) (j : Nat) (E : XK) : TS :=
  tRet (tCB (cLen g j) (tCons (cFld g.K (cV 0) "_budgets") (tNil)))
theorem dv_Round_len_ {g : Wd} (T : Top g) {j : Nat} {f : Addr} {cdv : Value} {A : Around} {outer : List Env} {s : Shared} {H : Hp} {E : XK} (hr : Room (j + 1) (A.deeper (envOfC "Round.__len__" (defScope (inClass (top 35) 4)) s.heap.objs.size f cdv))) :
    PSs (cxOf (L2.CX g.P g.w) g.P g.w g.K g.mg g.base ["self"] "Round.__len__" (defScope (inClass (top 35) 4)) f cdv A outer s H E) (defBody (inClass (top 35) 4)) (rd_Round_len_ g j E) := by
  unfold rd_Round_len_
  exact (pss_one (ps_ret (pe_callB (call_cLen hr) (by rfl) (bl_len T) bt_len (pa_cons (pe_cFld (cv 0)) pa_nil))))
theorem ok_Round_len_ {g : Wd} (T : Top g) {fd : FuncData} (F : FunD g.K "__len__" "Round.__len__" (defArgs (inClass (top 35) 4)) (defBody (inClass (top 35) 4)) (defScope (inClass (top 35) 4)) [] [] (mad g.K (gad g.K "Round") "__len__") fd) {j : Nat} {sp : Sp} (h : ∀ vs H Q E, sp vs H Q E → vs.length = 1 ∧ rd_Round_len_ g j E { nx := fun _ H1 => Q .non H1, rt := Q } (L2.start ["self"] vs) H) : FnOk g.P g.w g.K g.mg g.base (L2.CX g.P g.w) (j + 2) (mad g.K (gad g.K "Round") "__len__") fd ["self"] sp :=
  FunD.ok F sc_Round_len_ (fun vs H Q E hh => (h vs H Q E hh).1) fun cdv A outer s H vs Q E hr hh => ⟨rd_Round_len_ g j E, dv_Round_len_ T hr, (h vs H Q E hh).2⟩
theorem fk_Round_len_ {g : Wd} (T : Top g) (j : Nat) {sp : Sp} (h : ∀ vs H Q E, sp vs H Q E → vs.length = 1 ∧ rd_Round_len_ g j E { nx := fun _ H1 => Q .non H1, rt := Q } (L2.start ["self"] vs) H) : FnG g (j + 2) (mad g.K (gad g.K "Round") "__len__") sp := by
  obtain ⟨fd, F⟩ := fd_Round_len_ T
  exact fnG_of (ok_Round_len_ T F h) (FunD.bindsN F fun _ _ _ _ _ _ us hl => match us, hl with | [_], _ => rfl)
theorem sc_Round_eq_ : FnScope ["self", "other"] ["self", "other"] (defScope (inClass (top 35) 5)) := ⟨rfl, rfl, rfl, by decide +kernel, rfl, by decide +kernel, by decide +kernel⟩
def rd_Round_eq_ (g : Wd) (j : Nat) (E : XK) : TS :=
  tRet (cAndV (tCB (cIsi g.K) (tCons (cV 1) (tCons (cGv g "Round") (tNil)))) (tOp (cEqN g.K false) (cFld g.K (cV 0) "_budgets") (cFld g.K (cV 1) "_budgets")))
theorem dv_Round_eq_ {g : Wd} (T : Top g) {j : Nat} {f : Addr} {cdv : Value} {A : Around} {outer : List Env} {s : Shared} {H : Hp} {E : XK} (hr : Room (j + 1) (A.deeper (envOfC "Round.__eq__" (defScope (inClass (top 35) 5)) s.heap.objs.size f cdv))) :
    PSs (cxOf (L2.CX g.P g.w) g.P g.w g.K g.mg g.base ["self", "other"] "Round.__eq__" (defScope (inClass (top 35) 5)) f cdv A outer s H E) (defBody (inClass (top 35) 5)) (rd_Round_eq_ g j E) := by
  unfold rd_Round_eq_
  exact (pss_one (ps_ret (pe_cAnd (pe_callB (call_cIsi) (by rfl) (bl_isinstance T) bt_isinstance (pa_cons (cv 1) (pa_cons (pe_cGv (by rfl)) pa_nil))) (pe_one (pe_cmpR (op_cEq hr.units) (pe_cFld (cv 0)) (pe_cFld (cv 1)) (nomark _))))))
theorem ok_Round_eq_ {g : Wd} (T : Top g) {fd : FuncData} (F : FunD g.K "__eq__" "Round.__eq__" (defArgs (inClass (top 35) 5)) (defBody (inClass (top 35) 5)) (defScope (inClass (top 35) 5)) [] [] (mad g.K (gad g.K "Round") "__eq__") fd) {j : Nat} {sp : Sp} (h : ∀ vs H Q E, sp vs H Q E → vs.length = 2 ∧ rd_Round_eq_ g j E { nx := fun _ H1 => Q .non H1, rt := Q } (L2.start ["self", "other"] vs) H) : FnOk g.P g.w g.K g.mg g.base (L2.CX g.P g.w) (j + 2) (mad g.K (gad g.K "Round") "__eq__") fd ["self", "other"] sp :=
  FunD.ok F sc_Round_eq_ (fun vs H Q E hh => (h vs H Q E hh).1) fun cdv A outer s H vs Q E hr hh => ⟨rd_Round_eq_ g j E, dv_Round_eq_ T hr, (h vs H Q E hh).2⟩
theorem fk_Round_eq_ {g : Wd} (T : Top g) (j : Nat) {sp : Sp} (h : ∀ vs H Q E, sp vs H Q E → vs.length = 2 ∧ rd_Round_eq_ g j E { nx := fun _ H1 => Q .non H1, rt := Q } (L2.start ["self", "other"] vs) H) : FnG g (j + 2) (mad g.K (gad g.K "Round") "__eq__") sp := by
  obtain ⟨fd, F⟩ := fd_Round_eq_ T
  exact fnG_of (ok_Round_eq_ T F h) (FunD.bindsN F fun _ _ _ _ _ _ us hl => match us, hl with | [_, _], _ => rfl)
theorem sc_Round_add_ : FnScope ["self", "other", "joined"] ["self", "other"] (defScope (inClass (top 35) 6)) := ⟨rfl, rfl, rfl, by decide +kernel, rfl, by decide +kernel, by decide +kernel⟩
def rd_Round_add_ (g : Wd) (j : Nat) (E : XK) : TS :=
  tSeq (tIfS (tNot (cTru g.K (tCB (cIsi g.K) (tCons (cV 1) (tCons (cGv g "Round") (tNil)))))) (tNever) (tNext))
  (tSeq (tAsg (tOp (cAdd g.K noOw) (cFld g.K (cV 0) "_budgets") (cFld g.K (cV 1) "_budgets")) (gName 2))
  (tRet (cMakeS g j (fun cls d _ H => E cls d H) (gad g.K "Round") (cV 2))))
theorem dv_Round_add_ {g : Wd} (T : Top g) {j : Nat} {f : Addr} {cdv : Value} {A : Around} {outer : List Env} {s : Shared} {H : Hp} {E : XK} (hr : Room (j + 1) (A.deeper (envOfC "Round.__add__" (defScope (inClass (top 35) 6)) s.heap.objs.size f cdv))) :
    PSs (cxOf (L2.CX g.P g.w) g.P g.w g.K g.mg g.base ["self", "other", "joined"] "Round.__add__" (defScope (inClass (top 35) 6)) f cdv A outer s H E) (defBody (inClass (top 35) 6)) (rd_Round_add_ g j E) := by
  unfold rd_Round_add_
  exact (pss_cons (ps_if (pt_not (ptv (pe_callB (call_cIsi) (by rfl) (bl_isinstance T) bt_isinstance (pa_cons (cv 1) (pa_cons (pe_cGv (by rfl)) pa_nil))))) (pss_one ps_never) pss_nil)
  (pss_cons (ps_set (i := 2) sc_Round_add_.nd rfl (Or.inl rfl) (pe_op (op_cAdd noOw_ok) (pe_cFld (cv 0)) (pe_cFld (cv 1))))
  (pss_one (ps_ret (pe_cMakeS (takes_of rfl rfl rfl rfl) (hr.mono (Nat.le_succ _)) (gf_Round T) (by rfl) (cv 2))))))
theorem ok_Round_add_ {g : Wd} (T : Top g) {fd : FuncData} (F : FunD g.K "__add__" "Round.__add__" (defArgs (inClass (top 35) 6)) (defBody (inClass (top 35) 6)) (defScope (inClass (top 35) 6)) [] [] (mad g.K (gad g.K "Round") "__add__") fd) {j : Nat} {sp : Sp} (h : ∀ vs H Q E, sp vs H Q E → vs.length = 2 ∧ rd_Round_add_ g j E { nx := fun _ H1 => Q .non H1, rt := Q } (L2.start ["self", "other", "joined"] vs) H) : FnOk g.P g.w g.K g.mg g.base (L2.CX g.P g.w) (j + 2) (mad g.K (gad g.K "Round") "__add__") fd ["self", "other"] sp :=
  FunD.ok F sc_Round_add_ (fun vs H Q E hh => (h vs H Q E hh).1) fun cdv A outer s H vs Q E hr hh => ⟨rd_Round_add_ g j E, dv_Round_add_ T hr, (h vs H Q E hh).2⟩
theorem fk_Round_add_ {g : Wd} (T : Top g) (j : Nat) {sp : Sp} (h : ∀ vs H Q E, sp vs H Q E → vs.length = 2 ∧ rd_Round_add_ g j E { nx := fun _ H1 => Q .non H1, rt := Q } (L2.start ["self", "other", "joined"] vs) H) : FnG g (j + 2) (mad g.K (gad g.K "Round") "__add__") sp := by
  obtain ⟨fd, F⟩ := fd_Round_add_ T
  exact fnG_of (ok_Round_add_ T F h) (FunD.bindsN F fun _ _ _ _ _ _ us hl => match us, hl with | [_, _], _ => rfl)
theorem sc_Round_at : FnScope ["self", "t"] ["self", "t"] (defScope (inClass (top 35) 7)) := ⟨rfl, rfl, rfl, by decide +kernel, rfl, by decide +kernel, by decide +kernel⟩
def rd_Round_at (g : Wd) (j : Nat) (E : XK) : TS :=
  tSeq (tDrop (cCall g j (fun cls d _ H => E cls d H) (gad g.K "at_least") (tCons (cV 1) (tCons (tC (.int 0)) (tCons (tC (.str "t")) (tNil))))))
  (tRet (tOp (cIx g.K) (cFld g.K (cV 0) "_budgets") (tOp cMod (cV 1) (tCB (cLen g j) (tCons (cFld g.K (cV 0) "_budgets") (tNil))))))
theorem dv_Round_at {g : Wd} (T : Top g) {j : Nat} {f : Addr} {cdv : Value} {A : Around} {outer : List Env} {s : Shared} {H : Hp} {E : XK} (hr : Room (j + 1) (A.deeper (envOfC "Round.at" (defScope (inClass (top 35) 7)) s.heap.objs.size f cdv))) :
    PSs (cxOf (L2.CX g.P g.w) g.P g.w g.K g.mg g.base ["self", "t"] "Round.at" (defScope (inClass (top 35) 7)) f cdv A outer s H E) (defBody (inClass (top 35) 7)) (rd_Round_at g j E) := by
  unfold rd_Round_at
  exact (pss_cons (ps_expr (pe_cCall (takes_of rfl rfl rfl rfl) (hr.mono (Nat.le_succ _)) (gf_at_least T) (by rfl) (pa_cons (cv 1) (pa_cons pe_int (pa_cons pe_str pa_nil)))))
  (pss_one (ps_ret (pe_ix ix_c (pe_cFld (cv 0)) (pe_op op_cMod (cv 1) (pe_callB (call_cLen hr) (by rfl) (bl_len T) bt_len (pa_cons (pe_cFld (cv 0)) pa_nil))) (fun _ _ => rfl)))))
theorem ok_Round_at {g : Wd} (T : Top g) {fd : FuncData} (F : FunD g.K "at" "Round.at" (defArgs (inClass (top 35) 7)) (defBody (inClass (top 35) 7)) (defScope (inClass (top 35) 7)) [] [] (mad g.K (gad g.K "Round") "at") fd) {j : Nat} {sp : Sp} (h : ∀ vs H Q E, sp vs H Q E → vs.length = 2 ∧ rd_Round_at g j E { nx := fun _ H1 => Q .non H1, rt := Q } (L2.start ["self", "t"] vs) H) : FnOk g.P g.w g.K g.mg g.base (L2.CX g.P g.w) (j + 2) (mad g.K (gad g.K "Round") "at") fd ["self", "t"] sp :=
  FunD.ok F sc_Round_at (fun vs H Q E hh => (h vs H Q E hh).1) fun cdv A outer s H vs Q E hr hh => ⟨rd_Round_at g j E, dv_Round_at T hr, (h vs H Q E hh).2⟩
theorem fk_Round_at {g : Wd} (T : Top g) (j : Nat) {sp : Sp} (h : ∀ vs H Q E, sp vs H Q E → vs.length = 2 ∧ rd_Round_at g j E { nx := fun _ H1 => Q .non H1, rt := Q } (L2.start ["self", "t"] vs) H) : FnG g (j + 2) (mad g.K (gad g.K "Round") "at") sp := by
  obtain ⟨fd, F⟩ := fd_Round_at T
  exact fnG_of (ok_Round_at T F h) (FunD.bindsN F fun _ _ _ _ _ _ us hl => match us, hl with | [_, _], _ => rfl)
theorem sc_Round_total : FnScope ["self", "start", "count"] ["self", "start", "count"] (defScope (inClass (top 35) 9)) := ⟨rfl, rfl, rfl, by decide +kernel, rfl, by decide +kernel, by decide +kernel⟩
def rd_Round_total (g : Wd) (j : Nat) (E : XK) : TS :=
  tSeq (tDrop (cCall g j (fun cls d _ H => E cls d H) (gad g.K "at_least") (tCons (cV 1) (tCons (tC (.int 0)) (tCons (tC (.str "start")) (tNil))))))
  (tSeq (tDrop (cCall g j (fun cls d _ H => E cls d H) (gad g.K "at_least") (tCons (cV 2) (tCons (tC (.int 0)) (tCons (tC (.str "count")) (tNil))))))
  (tRet (cMeth g j (fun cls d _ H => E cls d H) "_window" (cV 0) (tCons (cV 1) (tCons (cV 2) (tNil))))))
theorem dv_Round_total {g : Wd} (T : Top g) {j : Nat} {f : Addr} {cdv : Value} {A : Around} {outer : List Env} {s : Shared} {H : Hp} {E : XK} (hr : Room (j + 1) (A.deeper (envOfC "Round.total" (defScope (inClass (top 35) 9)) s.heap.objs.size f cdv))) :
    PSs (cxOf (L2.CX g.P g.w) g.P g.w g.K g.mg g.base ["self", "start", "count"] "Round.total" (defScope (inClass (top 35) 9)) f cdv A outer s H E) (defBody (inClass (top 35) 9)) (rd_Round_total g j E) := by
  unfold rd_Round_total
  exact (pss_cons (ps_expr (pe_cCall (takes_of rfl rfl rfl rfl) (hr.mono (Nat.le_succ _)) (gf_at_least T) (by rfl) (pa_cons (cv 1) (pa_cons pe_int (pa_cons pe_str pa_nil)))))
  (pss_cons (ps_expr (pe_cCall (takes_of rfl rfl rfl rfl) (hr.mono (Nat.le_succ _)) (gf_at_least T) (by rfl) (pa_cons (cv 2) (pa_cons pe_int (pa_cons pe_str pa_nil)))))
  (pss_one (ps_ret (pe_cMeth (takes_of rfl rfl rfl rfl) (hr.mono (Nat.le_succ _)) (cv 0) (pa_cons (cv 1) (pa_cons (cv 2) pa_nil)))))))
theorem ok_Round_total {g : Wd} (T : Top g) {fd : FuncData} (F : FunD g.K "total" "Round.total" (defArgs (inClass (top 35) 9)) (defBody (inClass (top 35) 9)) (defScope (inClass (top 35) 9)) [] [] (mad g.K (gad g.K "Round") "total") fd) {j : Nat} {sp : Sp} (h : ∀ vs H Q E, sp vs H Q E → vs.length = 3 ∧ rd_Round_total g j E { nx := fun _ H1 => Q .non H1, rt := Q } (L2.start ["self", "start", "count"] vs) H) : FnOk g.P g.w g.K g.mg g.base (L2.CX g.P g.w) (j + 2) (mad g.K (gad g.K "Round") "total") fd ["self", "start", "count"] sp :=
  FunD.ok F sc_Round_total (fun vs H Q E hh => (h vs H Q E hh).1) fun cdv A outer s H vs Q E hr hh => ⟨rd_Round_total g j E, dv_Round_total T hr, (h vs H Q E hh).2⟩
theorem fk_Round_total {g : Wd} (T : Top g) (j : Nat) {sp : Sp} (h : ∀ vs H Q E, sp vs H Q E → vs.length = 3 ∧ rd_Round_total g j E { nx := fun _ H1 => Q .non H1, rt := Q } (L2.start ["self", "start", "count"] vs) H) : FnG g (j + 2) (mad g.K (gad g.K "Round") "total") sp := by
  obtain ⟨fd, F⟩ := fd_Round_total T
  exact fnG_of (ok_Round_total T F h) (FunD.bindsN F fun _ _ _ _ _ _ us hl => match us, hl with | [_, _, _], _ => rfl)
theorem sc_Round_least : FnScope ["self", "count"] ["self", "count"] (defScope (inClass (top 35) 10)) := ⟨rfl, rfl, rfl, by decide +kernel, rfl, by decide +kernel, by decide +kernel⟩
def rd_Round_least (g : Wd) (j : Nat) (E : XK) : TS :=
  tSeq (tDrop (cCall g j (fun cls d _ H => E cls d H) (gad g.K "at_least") (tCons (cV 1) (tCons (tC (.int 0)) (tCons (tC (.str "count")) (tNil))))))
  (tRet (tCB (cMin g.K) (tCons (cMeth g j (fun cls d _ H => E cls d H) "_windows" (cV 0) (tCons (cV 1) (tNil))) (tNil))))
theorem dv_Round_least {g : Wd} (T : Top g) {j : Nat} {f : Addr} {cdv : Value} {A : Around} {outer : List Env} {s : Shared} {H : Hp} {E : XK} (hr : Room (j + 1) (A.deeper (envOfC "Round.least" (defScope (inClass (top 35) 10)) s.heap.objs.size f cdv))) :
    PSs (cxOf (L2.CX g.P g.w) g.P g.w g.K g.mg g.base ["self", "count"] "Round.least" (defScope (inClass (top 35) 10)) f cdv A outer s H E) (defBody (inClass (top 35) 10)) (rd_Round_least g j E) := by
  unfold rd_Round_least
  exact (pss_cons (ps_expr (pe_cCall (takes_of rfl rfl rfl rfl) (hr.mono (Nat.le_succ _)) (gf_at_least T) (by rfl) (pa_cons (cv 1) (pa_cons pe_int (pa_cons pe_str pa_nil)))))
  (pss_one (ps_ret (pe_callB (call_cMin rfl) (by rfl) (bl_min T) bt_min (pa_cons (pe_cMeth (takes_of rfl rfl rfl rfl) (hr.mono (Nat.le_succ _)) (cv 0) (pa_cons (cv 1) pa_nil)) pa_nil)))))
theorem ok_Round_least {g : Wd} (T : Top g) {fd : FuncData} (F : FunD g.K "least" "Round.least" (defArgs (inClass (top 35) 10)) (defBody (inClass (top 35) 10)) (defScope (inClass (top 35) 10)) [] [] (mad g.K (gad g.K "Round") "least") fd) {j : Nat} {sp : Sp} (h : ∀ vs H Q E, sp vs H Q E → vs.length = 2 ∧ rd_Round_least g j E { nx := fun _ H1 => Q .non H1, rt := Q } (L2.start ["self", "count"] vs) H) : FnOk g.P g.w g.K g.mg g.base (L2.CX g.P g.w) (j + 2) (mad g.K (gad g.K "Round") "least") fd ["self", "count"] sp :=
  FunD.ok F sc_Round_least (fun vs H Q E hh => (h vs H Q E hh).1) fun cdv A outer s H vs Q E hr hh => ⟨rd_Round_least g j E, dv_Round_least T hr, (h vs H Q E hh).2⟩
theorem fk_Round_least {g : Wd} (T : Top g) (j : Nat) {sp : Sp} (h : ∀ vs H Q E, sp vs H Q E → vs.length = 2 ∧ rd_Round_least g j E { nx := fun _ H1 => Q .non H1, rt := Q } (L2.start ["self", "count"] vs) H) : FnG g (j + 2) (mad g.K (gad g.K "Round") "least") sp := by
  obtain ⟨fd, F⟩ := fd_Round_least T
  exact fnG_of (ok_Round_least T F h) (FunD.bindsN F fun _ _ _ _ _ _ us hl => match us, hl with | [_, _], _ => rfl)
theorem sc_Round_reach : FnScope ["self", "need", "whole", "turns", "rest", "count"] ["self", "need"] (defScope (inClass (top 35) 12)) := ⟨rfl, rfl, rfl, by decide +kernel, rfl, by decide +kernel, by decide +kernel⟩
def rd_Round_reach (g : Wd) (j : Nat) (E : XK) : TS :=
  tSeq (tIfS (cTest (tOp cLe (cV 1) (tC (.int 0)))) (tRet (tC (.int 0))) (tNext))
  (tSeq (tAsg (tCB (cSum g.K) (tCons (cFld g.K (cV 0) "_budgets") (tNil))) (gName 2))
  (tSeq (tIfS (cTest (tOp (cEqN g.K false) (cV 2) (tC (.int 0)))) (tRet (tC .non)) (tNext))
  (tSeq (tAsg (tOp cDiv (tOp cSub (cV 1) (tC (.int 1))) (cV 2)) (gName 3))
  (tSeq (tAsg (tOp cSub (cV 1) (tOp cMul (cV 3) (cV 2))) (gName 4))
  (tSeq (tAsg (tC (.int 1)) (gName 5))
  (tSeq (tWhile (cTest (tOp cLt (cMeth g j (fun cls d _ H => E cls d H) "least" (cV 0) (tCons (cV 5) (tNil))) (cV 4))) (tAsg (tOp (cAdd g.K noOw) (cV 5) (tC (.int 1))) (gName 5)))
  (tRet (tOp (cAdd g.K noOw) (tOp cMul (cV 3) (tCB (cLen g j) (tCons (cFld g.K (cV 0) "_budgets") (tNil)))) (cV 5)))))))))
theorem dv_Round_reach {g : Wd} (T : Top g) {j : Nat} {f : Addr} {cdv : Value} {A : Around} {outer : List Env} {s : Shared} {H : Hp} {E : XK} (hr : Room (j + 1) (A.deeper (envOfC "Round.reach" (defScope (inClass (top 35) 12)) s.heap.objs.size f cdv))) :
    PSs (cxOf (L2.CX g.P g.w) g.P g.w g.K g.mg g.base ["self", "need", "whole", "turns", "rest", "count"] "Round.reach" (defScope (inClass (top 35) 12)) f cdv A outer s H E) (defBody (inClass (top 35) 12)) (rd_Round_reach g j E) := by
  unfold rd_Round_reach
  exact (pss_cons (ps_if (ptc op_cLe (cv 1) pe_int (nomark _)) (pss_one (ps_ret pe_int)) pss_nil)
  (pss_cons (ps_set (i := 2) sc_Round_reach.nd rfl (Or.inl rfl) (pe_callB (call_cSum rfl) (by rfl) (bl_sum T) bt_sum (pa_cons (pe_cFld (cv 0)) pa_nil)))
  (pss_cons (ps_if (ptc (op_cEq hr.units) (cv 2) pe_int (nomark _)) (pss_one (ps_ret pe_non)) pss_nil)
  (pss_cons (ps_set (i := 3) sc_Round_reach.nd rfl (Or.inl rfl) (pe_op op_cDiv (pe_op op_cSub (cv 1) pe_int) (cv 2)))
  (pss_cons (ps_set (i := 4) sc_Round_reach.nd rfl (Or.inl rfl) (pe_op op_cSub (cv 1) (pe_op op_cMul (cv 3) (cv 2))))
  (pss_cons (ps_set (i := 5) sc_Round_reach.nd rfl (Or.inl rfl) pe_int)
  (pss_cons (ps_while (passes_of rfl) (ptc op_cLt (pe_cMeth (takes_of rfl rfl rfl rfl) (hr.mono (Nat.le_succ _)) (cv 0) (pa_cons (cv 5) pa_nil)) (cv 4) (nomark _)) (pss_one (ps_set (i := 5) sc_Round_reach.nd rfl (Or.inl rfl) (pe_op (op_cAdd noOw_ok) (cv 5) pe_int))))
  (pss_one (ps_ret (pe_op (op_cAdd noOw_ok) (pe_op op_cMul (cv 3) (pe_callB (call_cLen hr) (by rfl) (bl_len T) bt_len (pa_cons (pe_cFld (cv 0)) pa_nil))) (cv 5)))))))))))
theorem ok_Round_reach {g : Wd} (T : Top g) {fd : FuncData} (F : FunD g.K "reach" "Round.reach" (defArgs (inClass (top 35) 12)) (defBody (inClass (top 35) 12)) (defScope (inClass (top 35) 12)) [] [] (mad g.K (gad g.K "Round") "reach") fd) {j : Nat} {sp : Sp} (h : ∀ vs H Q E, sp vs H Q E → vs.length = 2 ∧ rd_Round_reach g j E { nx := fun _ H1 => Q .non H1, rt := Q } (L2.start ["self", "need", "whole", "turns", "rest", "count"] vs) H) : FnOk g.P g.w g.K g.mg g.base (L2.CX g.P g.w) (j + 2) (mad g.K (gad g.K "Round") "reach") fd ["self", "need"] sp :=
  FunD.ok F sc_Round_reach (fun vs H Q E hh => (h vs H Q E hh).1) fun cdv A outer s H vs Q E hr hh => ⟨rd_Round_reach g j E, dv_Round_reach T hr, (h vs H Q E hh).2⟩
theorem fk_Round_reach {g : Wd} (T : Top g) (j : Nat) {sp : Sp} (h : ∀ vs H Q E, sp vs H Q E → vs.length = 2 ∧ rd_Round_reach g j E { nx := fun _ H1 => Q .non H1, rt := Q } (L2.start ["self", "need", "whole", "turns", "rest", "count"] vs) H) : FnG g (j + 2) (mad g.K (gad g.K "Round") "reach") sp := by
  obtain ⟨fd, F⟩ := fd_Round_reach T
  exact fnG_of (ok_Round_reach T F h) (FunD.bindsN F fun _ _ _ _ _ _ us hl => match us, hl with | [_, _], _ => rfl)
theorem sc_Round__window : FnScope ["self", "start", "count", "turns", "rest", "first", "twice"] ["self", "start", "count"] (defScope (inClass (top 35) 13)) := ⟨rfl, rfl, rfl, by decide +kernel, rfl, by decide +kernel, by decide +kernel⟩
def rd_Round__window (g : Wd) (j : Nat) (E : XK) : TS :=
  tSeq (tAsg (tCB (cDivmod) (tCons (cV 2) (tCons (tCB (cLen g j) (tCons (cFld g.K (cV 0) "_budgets") (tNil))) (tNil)))) (cgTup g.K 2 (cgCons (gName 3) (cgCons (gName 4) (cgNil)))))
  (tSeq (tAsg (tOp cMod (cV 1) (tCB (cLen g j) (tCons (cFld g.K (cV 0) "_budgets") (tNil)))) (gName 5))
  (tSeq (tAsg (tOp (cAdd g.K noOw) (cFld g.K (cV 0) "_budgets") (cFld g.K (cV 0) "_budgets")) (gName 6))
  (tRet (tOp (cAdd g.K noOw) (tOp cMul (cV 3) (tCB (cSum g.K) (tCons (cFld g.K (cV 0) "_budgets") (tNil)))) (tCB (cSum g.K) (tCons (tSl (cSl g.K) (cV 6) (cPart (cV 5)) (cPart (tOp (cAdd g.K noOw) (cV 5) (cV 4)))) (tNil)))))))
theorem dv_Round__window {g : Wd} (T : Top g) {j : Nat} {f : Addr} {cdv : Value} {A : Around} {outer : List Env} {s : Shared} {H : Hp} {E : XK} (hr : Room (j + 1) (A.deeper (envOfC "Round._window" (defScope (inClass (top 35) 13)) s.heap.objs.size f cdv))) :
    PSs (cxOf (L2.CX g.P g.w) g.P g.w g.K g.mg g.base ["self", "start", "count", "turns", "rest", "first", "twice"] "Round._window" (defScope (inClass (top 35) 13)) f cdv A outer s H E) (defBody (inClass (top 35) 13)) (rd_Round__window g j E) := by
  unfold rd_Round__window
  exact (pss_cons (ps_asg (pe_callB (call_cDivmod) (by rfl) (bl_divmod T) bt_divmod (pa_cons (cv 2) (pa_cons (pe_callB (call_cLen hr) (by rfl) (bl_len T) bt_len (pa_cons (pe_cFld (cv 0)) pa_nil)) pa_nil))) (pg_ctup rfl (pgs_ccons (pg_name sc_Round__window.nd rfl (Or.inl rfl)) (pgs_ccons (pg_name sc_Round__window.nd rfl (Or.inl rfl)) pgs_cnil))))
  (pss_cons (ps_set (i := 5) sc_Round__window.nd rfl (Or.inl rfl) (pe_op op_cMod (cv 1) (pe_callB (call_cLen hr) (by rfl) (bl_len T) bt_len (pa_cons (pe_cFld (cv 0)) pa_nil))))
  (pss_cons (ps_set (i := 6) sc_Round__window.nd rfl (Or.inl rfl) (pe_op (op_cAdd noOw_ok) (pe_cFld (cv 0)) (pe_cFld (cv 0))))
  (pss_one (ps_ret (pe_op (op_cAdd noOw_ok) (pe_op op_cMul (cv 3) (pe_callB (call_cSum rfl) (by rfl) (bl_sum T) bt_sum (pa_cons (pe_cFld (cv 0)) pa_nil))) (pe_callB (call_cSum rfl) (by rfl) (bl_sum T) bt_sum (pa_cons (pe_slice sl_c (cv 6) (po_c (cv 5)) (po_c (pe_op (op_cAdd noOw_ok) (cv 5) (cv 4)))) pa_nil))))))))
theorem ok_Round__window {g : Wd} (T : Top g) {fd : FuncData} (F : FunD g.K "_window" "Round._window" (defArgs (inClass (top 35) 13)) (defBody (inClass (top 35) 13)) (defScope (inClass (top 35) 13)) [] [] (mad g.K (gad g.K "Round") "_window") fd) {j : Nat} {sp : Sp} (h : ∀ vs H Q E, sp vs H Q E → vs.length = 3 ∧ rd_Round__window g j E { nx := fun _ H1 => Q .non H1, rt := Q } (L2.start ["self", "start", "count", "turns", "rest", "first", "twice"] vs) H) : FnOk g.P g.w g.K g.mg g.base (L2.CX g.P g.w) (j + 2) (mad g.K (gad g.K "Round") "_window") fd ["self", "start", "count"] sp :=
  FunD.ok F sc_Round__window (fun vs H Q E hh => (h vs H Q E hh).1) fun cdv A outer s H vs Q E hr hh => ⟨rd_Round__window g j E, dv_Round__window T hr, (h vs H Q E hh).2⟩
theorem fk_Round__window {g : Wd} (T : Top g) (j : Nat) {sp : Sp} (h : ∀ vs H Q E, sp vs H Q E → vs.length = 3 ∧ rd_Round__window g j E { nx := fun _ H1 => Q .non H1, rt := Q } (L2.start ["self", "start", "count", "turns", "rest", "first", "twice"] vs) H) : FnG g (j + 2) (mad g.K (gad g.K "Round") "_window") sp := by
  obtain ⟨fd, F⟩ := fd_Round__window T
  exact fnG_of (ok_Round__window T F h) (FunD.bindsN F fun _ _ _ _ _ _ us hl => match us, hl with | [_, _, _], _ => rfl)
theorem sc_Round__windows : FnScope ["self", "count", "start"] ["self", "count"] (defScope (inClass (top 35) 14)) := ⟨rfl, rfl, rfl, by decide +kernel, rfl, by decide +kernel, by decide +kernel⟩
def rd_Round__windows (g : Wd) (j : Nat) (E : XK) : TS :=
  tRet (tLc (iRng1 (tCons (tCB (cLen g j) (tCons (cFld g.K (cV 0) "_budgets") (tNil))) (tNil))) (gName 2) (tYes) (cMeth g j (fun _ _ _ _ => False) "_window" (cV 0) (tCons (cV 2) (tCons (cV 1) (tNil)))) [2])
theorem dv_Round__windows {g : Wd} (T : Top g) {j : Nat} {f : Addr} {cdv : Value} {A : Around} {outer : List Env} {s : Shared} {H : Hp} {E : XK} (hr : Room (j + 1) (A.deeper (envOfC "Round._windows" (defScope (inClass (top 35) 14)) s.heap.objs.size f cdv))) :
    PSs (cxOf (L2.CX g.P g.w) g.P g.w g.K g.mg g.base ["self", "count", "start"] "Round._windows" (defScope (inClass (top 35) 14)) f cdv A outer s H E) (defBody (inClass (top 35) 14)) (rd_Round__windows g j E) := by
  unfold rd_Round__windows
  exact (pss_one (ps_ret (pe_lc rfl sc_Round__windows.nd (pi_range1 (by rfl) (bl_range T) (pa_cons (pe_callB (call_cLen hr) (by rfl) (bl_len T) bt_len (pa_cons (pe_cFld (cv 0)) pa_nil)) pa_nil)) (blkOk_by (own := [("start", 2)]) (by change blkC ["self", "count", "start"] (defScope (inClass (top 35) 14)) _ _ = true; decide +kernel)) (fun s H C cl fp => (pg_name sc_Round__windows.nd rfl (Or.inl rfl))) (fun s H C cl fp => pts_nil) (fun s H C cl fp => (pe_cMeth takes0 (hr.mono (Nat.le_succ _)) (cv 0) (pa_cons (cv 2) (pa_cons (cv 1) pa_nil)))))))
theorem ok_Round__windows {g : Wd} (T : Top g) {fd : FuncData} (F : FunD g.K "_windows" "Round._windows" (defArgs (inClass (top 35) 14)) (defBody (inClass (top 35) 14)) (defScope (inClass (top 35) 14)) [] [] (mad g.K (gad g.K "Round") "_windows") fd) {j : Nat} {sp : Sp} (h : ∀ vs H Q E, sp vs H Q E → vs.length = 2 ∧ rd_Round__windows g j E { nx := fun _ H1 => Q .non H1, rt := Q } (L2.start ["self", "count", "start"] vs) H) : FnOk g.P g.w g.K g.mg g.base (L2.CX g.P g.w) (j + 2) (mad g.K (gad g.K "Round") "_windows") fd ["self", "count"] sp :=
  FunD.ok F sc_Round__windows (fun vs H Q E hh => (h vs H Q E hh).1) fun cdv A outer s H vs Q E hr hh => ⟨rd_Round__windows g j E, dv_Round__windows T hr, (h vs H Q E hh).2⟩
theorem fk_Round__windows {g : Wd} (T : Top g) (j : Nat) {sp : Sp} (h : ∀ vs H Q E, sp vs H Q E → vs.length = 2 ∧ rd_Round__windows g j E { nx := fun _ H1 => Q .non H1, rt := Q } (L2.start ["self", "count", "start"] vs) H) : FnG g (j + 2) (mad g.K (gad g.K "Round") "_windows") sp := by
  obtain ⟨fd, F⟩ := fd_Round__windows T
  exact fnG_of (ok_Round__windows T F h) (FunD.bindsN F fun _ _ _ _ _ _ us hl => match us, hl with | [_, _], _ => rfl)
theorem sc_effective : FnScope ["places", "limit", "late", "tears", "readers"] ["places", "limit", "late", "tears", "readers"] (defScope (top 37)) := ⟨rfl, rfl, rfl, by decide +kernel, rfl, by decide +kernel, by decide +kernel⟩
def rd_effective (g : Wd) (j : Nat) (E : XK) : TS :=
  tSeq (tDrop (cCall g j (fun cls d _ H => E cls d H) (gad g.K "at_least") (tCons (cV 0) (tCons (tC (.int 1)) (tCons (tC (.str "places")) (tNil))))))
  (tSeq (tDrop (cCall g j (fun cls d _ H => E cls d H) (gad g.K "at_least") (tCons (cV 1) (tCons (tC (.int 1)) (tCons (tC (.str "limit")) (tNil))))))
  (tSeq (tDrop (cCall g j (fun cls d _ H => E cls d H) (gad g.K "_check_order") (tCons (cV 2) (tCons (cV 3) (tCons (cV 4) (tNil))))))
  (tRet (tTup (tCons (tOp cSub (cV 0) (cCall g j (fun cls d _ H => E cls d H) (gad g.K "_lost_places") (tCons (cV 2) (tCons (cV 3) (tNil))))) (tCons (tOp cMul (cV 1) (tOp (cAdd g.K noOw) (cV 4) (tC (.int 1)))) (tNil)))))))
theorem dv_effective {g : Wd} (T : Top g) {j : Nat} {f : Addr} {cdv : Value} {A : Around} {outer : List Env} {s : Shared} {H : Hp} {E : XK} (hr : Room (j + 1) (A.deeper (envOfC "effective" (defScope (top 37)) s.heap.objs.size f cdv))) :
    PSs (cxOf (L2.CX g.P g.w) g.P g.w g.K g.mg g.base ["places", "limit", "late", "tears", "readers"] "effective" (defScope (top 37)) f cdv A outer s H E) (defBody (top 37)) (rd_effective g j E) := by
  unfold rd_effective
  exact (pss_cons (ps_expr (pe_cCall (takes_of rfl rfl rfl rfl) (hr.mono (Nat.le_succ _)) (gf_at_least T) (by rfl) (pa_cons (cv 0) (pa_cons pe_int (pa_cons pe_str pa_nil)))))
  (pss_cons (ps_expr (pe_cCall (takes_of rfl rfl rfl rfl) (hr.mono (Nat.le_succ _)) (gf_at_least T) (by rfl) (pa_cons (cv 1) (pa_cons pe_int (pa_cons pe_str pa_nil)))))
  (pss_cons (ps_expr (pe_cCall (takes_of rfl rfl rfl rfl) (hr.mono (Nat.le_succ _)) (gf__check_order T) (by rfl) (pa_cons (cv 2) (pa_cons (cv 3) (pa_cons (cv 4) pa_nil)))))
  (pss_one (ps_ret (pe_tup (pa_cons (pe_op op_cSub (cv 0) (pe_cCall (takes_of rfl rfl rfl rfl) (hr.mono (Nat.le_succ _)) (gf__lost_places T) (by rfl) (pa_cons (cv 2) (pa_cons (cv 3) pa_nil)))) (pa_cons (pe_op op_cMul (cv 1) (pe_op (op_cAdd noOw_ok) (cv 4) pe_int)) pa_nil))))))))
theorem ok_effective {g : Wd} (T : Top g) {fd : FuncData} (F : FunD g.K "effective" "effective" (defArgs (top 37)) (defBody (top 37)) (defScope (top 37)) [] [("late", .bl false), ("tears", .int 0), ("readers", .int 0)] (gad g.K "effective") fd) {j : Nat} {sp : Sp} (h : ∀ vs H Q E, sp vs H Q E → vs.length = 5 ∧ rd_effective g j E { nx := fun _ H1 => Q .non H1, rt := Q } (L2.start ["places", "limit", "late", "tears", "readers"] vs) H) : FnOk g.P g.w g.K g.mg g.base (L2.CX g.P g.w) (j + 2) (gad g.K "effective") fd ["places", "limit", "late", "tears", "readers"] sp :=
  FunD.ok F sc_effective (fun vs H Q E hh => (h vs H Q E hh).1) fun cdv A outer s H vs Q E hr hh => ⟨rd_effective g j E, dv_effective T hr, (h vs H Q E hh).2⟩
theorem sc_ring_goes_on : FnScope ["places", "limit", "budgets", "late", "tears", "readers", "room", "needed"] ["places", "limit", "budgets", "late", "tears", "readers"] (defScope (top 38)) := ⟨rfl, rfl, rfl, by decide +kernel, rfl, by decide +kernel, by decide +kernel⟩
def rd_ring_goes_on (g : Wd) (j : Nat) (E : XK) : TS :=
  tSeq (tAsg (cCallK g j (fun cls d _ H => E cls d H) (gad g.K "effective") ["late", "tears", "readers"] (tCons (cV 0) (tCons (cV 1) (tNil))) (tCons (cV 3) (tCons (cV 4) (tCons (cV 5) (tNil))))) (cgTup g.K 2 (cgCons (gName 6) (cgCons (gName 7) (cgNil)))))
  (tRet (cAndV (tOp cLe (cV 7) (cV 6)) (tOp cGe (cMeth g j (fun cls d _ H => E cls d H) "least" (cV 2) (tCons (tOp cSub (cV 6) (cV 7)) (tNil))) (tOp cSub (cV 7) (tC (.int 1))))))
theorem dv_ring_goes_on {g : Wd} (T : Top g) {j : Nat} {f : Addr} {cdv : Value} {A : Around} {outer : List Env} {s : Shared} {H : Hp} {E : XK} (hr : Room (j + 1) (A.deeper (envOfC "ring_goes_on" (defScope (top 38)) s.heap.objs.size f cdv))) :
    PSs (cxOf (L2.CX g.P g.w) g.P g.w g.K g.mg g.base ["places", "limit", "budgets", "late", "tears", "readers", "room", "needed"] "ring_goes_on" (defScope (top 38)) f cdv A outer s H E) (defBody (top 38)) (rd_ring_goes_on g j E) := by
  unfold rd_ring_goes_on
  exact (pss_cons (ps_asg (pe_cCallK (takes_of rfl rfl rfl rfl) (hr.mono (Nat.le_succ _)) (gf_effective T) (by rfl) (pa_cons (cv 0) (pa_cons (cv 1) pa_nil)) (pk_cons (cv 3) (pk_cons (cv 4) (pk_cons (cv 5) pk_nil)))) (pg_ctup rfl (pgs_ccons (pg_name sc_ring_goes_on.nd rfl (Or.inl rfl)) (pgs_ccons (pg_name sc_ring_goes_on.nd rfl (Or.inl rfl)) pgs_cnil))))
  (pss_one (ps_ret (pe_cAnd (pe_cmpR op_cLe (cv 7) (cv 6) (nomark _)) (pe_one (pe_cmpR op_cGe (pe_cMeth (takes_of rfl rfl rfl rfl) (hr.mono (Nat.le_succ _)) (cv 2) (pa_cons (pe_op op_cSub (cv 6) (cv 7)) pa_nil)) (pe_op op_cSub (cv 7) pe_int) (nomark _)))))))
theorem ok_ring_goes_on {g : Wd} (T : Top g) {fd : FuncData} (F : FunD g.K "ring_goes_on" "ring_goes_on" (defArgs (top 38)) (defBody (top 38)) (defScope (top 38)) [] [("late", .bl false), ("tears", .int 0), ("readers", .int 0)] (gad g.K "ring_goes_on") fd) {j : Nat} {sp : Sp} (h : ∀ vs H Q E, sp vs H Q E → vs.length = 6 ∧ rd_ring_goes_on g j E { nx := fun _ H1 => Q .non H1, rt := Q } (L2.start ["places", "limit", "budgets", "late", "tears", "readers", "room", "needed"] vs) H) : FnOk g.P g.w g.K g.mg g.base (L2.CX g.P g.w) (j + 2) (gad g.K "ring_goes_on") fd ["places", "limit", "budgets", "late", "tears", "readers"] sp :=
  FunD.ok F sc_ring_goes_on (fun vs H Q E hh => (h vs H Q E hh).1) fun cdv A outer s H vs Q E hr hh => ⟨rd_ring_goes_on g j E, dv_ring_goes_on T hr, (h vs H Q E hh).2⟩
theorem sc_least_free : FnScope ["limit", "budgets"] ["limit", "budgets"] (defScope (top 39)) := ⟨rfl, rfl, rfl, by decide +kernel, rfl, by decide +kernel, by decide +kernel⟩
def rd_least_free (g : Wd) (j : Nat) (E : XK) : TS :=
  tSeq (tDrop (cCall g j (fun cls d _ H => E cls d H) (gad g.K "at_least") (tCons (cV 0) (tCons (tC (.int 1)) (tCons (tC (.str "limit")) (tNil))))))
  (tRet (cMeth g j (fun cls d _ H => E cls d H) "reach" (cV 1) (tCons (tOp cSub (cV 0) (tC (.int 1))) (tNil))))
theorem dv_least_free {g : Wd} (T : Top g) {j : Nat} {f : Addr} {cdv : Value} {A : Around} {outer : List Env} {s : Shared} {H : Hp} {E : XK} (hr : Room (j + 1) (A.deeper (envOfC "least_free" (defScope (top 39)) s.heap.objs.size f cdv))) :
    PSs (cxOf (L2.CX g.P g.w) g.P g.w g.K g.mg g.base ["limit", "budgets"] "least_free" (defScope (top 39)) f cdv A outer s H E) (defBody (top 39)) (rd_least_free g j E) := by
  unfold rd_least_free
  exact (pss_cons (ps_expr (pe_cCall (takes_of rfl rfl rfl rfl) (hr.mono (Nat.le_succ _)) (gf_at_least T) (by rfl) (pa_cons (cv 0) (pa_cons pe_int (pa_cons pe_str pa_nil)))))
  (pss_one (ps_ret (pe_cMeth (takes_of rfl rfl rfl rfl) (hr.mono (Nat.le_succ _)) (cv 1) (pa_cons (pe_op op_cSub (cv 0) pe_int) pa_nil)))))
theorem ok_least_free {g : Wd} (T : Top g) {fd : FuncData} (F : FunD g.K "least_free" "least_free" (defArgs (top 39)) (defBody (top 39)) (defScope (top 39)) [] [] (gad g.K "least_free") fd) {j : Nat} {sp : Sp} (h : ∀ vs H Q E, sp vs H Q E → vs.length = 2 ∧ rd_least_free g j E { nx := fun _ H1 => Q .non H1, rt := Q } (L2.start ["limit", "budgets"] vs) H) : FnOk g.P g.w g.K g.mg g.base (L2.CX g.P g.w) (j + 2) (gad g.K "least_free") fd ["limit", "budgets"] sp :=
  FunD.ok F sc_least_free (fun vs H Q E hh => (h vs H Q E hh).1) fun cdv A outer s H vs Q E hr hh => ⟨rd_least_free g j E, dv_least_free T hr, (h vs H Q E hh).2⟩
theorem fk_least_free {g : Wd} (T : Top g) (j : Nat) {sp : Sp} (h : ∀ vs H Q E, sp vs H Q E → vs.length = 2 ∧ rd_least_free g j E { nx := fun _ H1 => Q .non H1, rt := Q } (L2.start ["limit", "budgets"] vs) H) : FnG g (j + 2) (gad g.K "least_free") sp := by
  obtain ⟨fd, F⟩ := fd_least_free T
  exact fnG_of (ok_least_free T F h) (FunD.bindsN F fun _ _ _ _ _ _ us hl => match us, hl with | [_, _], _ => rfl)
theorem sc__check_order : FnScope ["late", "tears", "readers"] ["late", "tears", "readers"] (defScope (top 40)) := ⟨rfl, rfl, rfl, by decide +kernel, rfl, by decide +kernel, by decide +kernel⟩
def rd__check_order (g : Wd) (j : Nat) (E : XK) : TS :=
  tSeq (tDrop (cCall g j (fun cls d _ H => E cls d H) (gad g.K "at_least") (tCons (cV 1) (tCons (tC (.int 0)) (tCons (tC (.str "tears")) (tNil))))))
  (tSeq (tDrop (cCall g j (fun cls d _ H => E cls d H) (gad g.K "at_least") (tCons (cV 2) (tCons (tC (.int 0)) (tCons (tC (.str "readers")) (tNil))))))
  (tIfS (cTru g.K (cV 0)) (tDrop (cCall g j (fun cls d _ H => E cls d H) (gad g.K "at_most") (tCons (cV 2) (tCons (tC (.int 0)) (tCons (tC (.str "readers")) (tNil)))))) (tDrop (cCall g j (fun cls d _ H => E cls d H) (gad g.K "at_most") (tCons (cV 1) (tCons (tC (.int 0)) (tCons (tC (.str "tears")) (tNil))))))))
theorem dv__check_order {g : Wd} (T : Top g) {j : Nat} {f : Addr} {cdv : Value} {A : Around} {outer : List Env} {s : Shared} {H : Hp} {E : XK} (hr : Room (j + 1) (A.deeper (envOfC "_check_order" (defScope (top 40)) s.heap.objs.size f cdv))) :
    PSs (cxOf (L2.CX g.P g.w) g.P g.w g.K g.mg g.base ["late", "tears", "readers"] "_check_order" (defScope (top 40)) f cdv A outer s H E) (defBody (top 40)) (rd__check_order g j E) := by
  unfold rd__check_order
  exact (pss_cons (ps_expr (pe_cCall (takes_of rfl rfl rfl rfl) (hr.mono (Nat.le_succ _)) (gf_at_least T) (by rfl) (pa_cons (cv 1) (pa_cons pe_int (pa_cons pe_str pa_nil)))))
  (pss_cons (ps_expr (pe_cCall (takes_of rfl rfl rfl rfl) (hr.mono (Nat.le_succ _)) (gf_at_least T) (by rfl) (pa_cons (cv 2) (pa_cons pe_int (pa_cons pe_str pa_nil)))))
  (pss_one (ps_if (ptv (cv 0)) (pss_one (ps_expr (pe_cCall (takes_of rfl rfl rfl rfl) (hr.mono (Nat.le_succ _)) (gf_at_most T) (by rfl) (pa_cons (cv 2) (pa_cons pe_int (pa_cons pe_str pa_nil)))))) (pss_one (ps_expr (pe_cCall (takes_of rfl rfl rfl rfl) (hr.mono (Nat.le_succ _)) (gf_at_most T) (by rfl) (pa_cons (cv 1) (pa_cons pe_int (pa_cons pe_str pa_nil))))))))))
theorem ok__check_order {g : Wd} (T : Top g) {fd : FuncData} (F : FunD g.K "_check_order" "_check_order" (defArgs (top 40)) (defBody (top 40)) (defScope (top 40)) [] [] (gad g.K "_check_order") fd) {j : Nat} {sp : Sp} (h : ∀ vs H Q E, sp vs H Q E → vs.length = 3 ∧ rd__check_order g j E { nx := fun _ H1 => Q .non H1, rt := Q } (L2.start ["late", "tears", "readers"] vs) H) : FnOk g.P g.w g.K g.mg g.base (L2.CX g.P g.w) (j + 2) (gad g.K "_check_order") fd ["late", "tears", "readers"] sp :=
  FunD.ok F sc__check_order (fun vs H Q E hh => (h vs H Q E hh).1) fun cdv A outer s H vs Q E hr hh => ⟨rd__check_order g j E, dv__check_order T hr, (h vs H Q E hh).2⟩
theorem fk__check_order {g : Wd} (T : Top g) (j : Nat) {sp : Sp} (h : ∀ vs H Q E, sp vs H Q E → vs.length = 3 ∧ rd__check_order g j E { nx := fun _ H1 => Q .non H1, rt := Q } (L2.start ["late", "tears", "readers"] vs) H) : FnG g (j + 2) (gad g.K "_check_order") sp := by
  obtain ⟨fd, F⟩ := fd__check_order T
  exact fnG_of (ok__check_order T F h) (FunD.bindsN F fun _ _ _ _ _ _ us hl => match us, hl with | [_, _, _], _ => rfl)
theorem sc__lost_places : FnScope ["late", "tears"] ["late", "tears"] (defScope (top 41)) := ⟨rfl, rfl, rfl, by decide +kernel, rfl, by decide +kernel, by decide +kernel⟩
def rd__lost_places (g : Wd) (j : Nat) (E : XK) : TS :=
  tRet (tIf (cTru g.K (cV 0)) (tOp (cAdd g.K noOw) (tC (.int 1)) (cV 1)) (tC (.int 0)))
theorem dv__lost_places {g : Wd} (T : Top g) {j : Nat} {f : Addr} {cdv : Value} {A : Around} {outer : List Env} {s : Shared} {H : Hp} {E : XK} (hr : Room (j + 1) (A.deeper (envOfC "_lost_places" (defScope (top 41)) s.heap.objs.size f cdv))) :
    PSs (cxOf (L2.CX g.P g.w) g.P g.w g.K g.mg g.base ["late", "tears"] "_lost_places" (defScope (top 41)) f cdv A outer s H E) (defBody (top 41)) (rd__lost_places g j E) := by
  unfold rd__lost_places
  exact (pss_one (ps_ret (pe_ifExp (ptv (cv 0)) (pe_op (op_cAdd noOw_ok) pe_int (cv 1)) pe_int)))
theorem ok__lost_places {g : Wd} (T : Top g) {fd : FuncData} (F : FunD g.K "_lost_places" "_lost_places" (defArgs (top 41)) (defBody (top 41)) (defScope (top 41)) [] [] (gad g.K "_lost_places") fd) {j : Nat} {sp : Sp} (h : ∀ vs H Q E, sp vs H Q E → vs.length = 2 ∧ rd__lost_places g j E { nx := fun _ H1 => Q .non H1, rt := Q } (L2.start ["late", "tears"] vs) H) : FnOk g.P g.w g.K g.mg g.base (L2.CX g.P g.w) (j + 2) (gad g.K "_lost_places") fd ["late", "tears"] sp :=
  FunD.ok F sc__lost_places (fun vs H Q E hh => (h vs H Q E hh).1) fun cdv A outer s H vs Q E hr hh => ⟨rd__lost_places g j E, dv__lost_places T hr, (h vs H Q E hh).2⟩
theorem fk__lost_places {g : Wd} (T : Top g) (j : Nat) {sp : Sp} (h : ∀ vs H Q E, sp vs H Q E → vs.length = 2 ∧ rd__lost_places g j E { nx := fun _ H1 => Q .non H1, rt := Q } (L2.start ["late", "tears"] vs) H) : FnG g (j + 2) (gad g.K "_lost_places") sp := by
  obtain ⟨fd, F⟩ := fd__lost_places T
  exact fnG_of (ok__lost_places T F h) (FunD.bindsN F fun _ _ _ _ _ _ us hl => match us, hl with | [_, _], _ => rfl)
theorem sc__law_is_count : FnScope ["_law_thing"] ["_law_thing"] (defScope (top 43)) := ⟨rfl, rfl, rfl, by decide +kernel, rfl, by decide +kernel, by decide +kernel⟩
def rd__law_is_count (g : Wd) (j : Nat) (E : XK) : TS :=
  tRet (cAndV (tCB (cIsi g.K) (tCons (cV 0) (tCons (tC (.ty "int")) (tNil)))) (cNotV (tCB (cIsi g.K) (tCons (cV 0) (tCons (tC (.ty "bool")) (tNil))))))
theorem dv__law_is_count {g : Wd} (T : Top g) {j : Nat} {f : Addr} {cdv : Value} {A : Around} {outer : List Env} {s : Shared} {H : Hp} {E : XK} (hr : Room (j + 1) (A.deeper (envOfC "_law_is_count" (defScope (top 43)) s.heap.objs.size f cdv))) :
    PSs (cxOf (L2.CX g.P g.w) g.P g.w g.K g.mg g.base ["_law_thing"] "_law_is_count" (defScope (top 43)) f cdv A outer s H E) (defBody (top 43)) (rd__law_is_count g j E) := by
  unfold rd__law_is_count
  exact (pss_one (ps_ret (pe_cAnd (pe_callB (call_cIsi) (by rfl) (bl_isinstance T) bt_isinstance (pa_cons (cv 0) (pa_cons (pe_bltn (v := .ty "int") (by rfl) (bl_int T) bt_int (by rfl)) pa_nil))) (pe_one (pe_cNot (pe_callB (call_cIsi) (by rfl) (bl_isinstance T) bt_isinstance (pa_cons (cv 0) (pa_cons (pe_bltn (v := .ty "bool") (by rfl) (bl_bool T) bt_bool (by rfl)) pa_nil))))))))
theorem ok__law_is_count {g : Wd} (T : Top g) {fd : FuncData} (F : FunD g.K "_law_is_count" "_law_is_count" (defArgs (top 43)) (defBody (top 43)) (defScope (top 43)) [] [] (gad g.K "_law_is_count") fd) {j : Nat} {sp : Sp} (h : ∀ vs H Q E, sp vs H Q E → vs.length = 1 ∧ rd__law_is_count g j E { nx := fun _ H1 => Q .non H1, rt := Q } (L2.start ["_law_thing"] vs) H) : FnOk g.P g.w g.K g.mg g.base (L2.CX g.P g.w) (j + 2) (gad g.K "_law_is_count") fd ["_law_thing"] sp :=
  FunD.ok F sc__law_is_count (fun vs H Q E hh => (h vs H Q E hh).1) fun cdv A outer s H vs Q E hr hh => ⟨rd__law_is_count g j E, dv__law_is_count T hr, (h vs H Q E hh).2⟩
theorem fk__law_is_count {g : Wd} (T : Top g) (j : Nat) {sp : Sp} (h : ∀ vs H Q E, sp vs H Q E → vs.length = 1 ∧ rd__law_is_count g j E { nx := fun _ H1 => Q .non H1, rt := Q } (L2.start ["_law_thing"] vs) H) : FnG g (j + 2) (gad g.K "_law_is_count") sp := by
  obtain ⟨fd, F⟩ := fd__law_is_count T
  exact fnG_of (ok__law_is_count T F h) (FunD.bindsN F fun _ _ _ _ _ _ us hl => match us, hl with | [_], _ => rfl)
theorem sc__law_box : FnScope ["_law_script", "_law_at", "_law_seed", "_law_cell"] ["_law_script", "_law_at"] (defScope (top 44)) := ⟨rfl, rfl, rfl, by decide +kernel, rfl, by decide +kernel, by decide +kernel⟩
def rd__law_box (g : Wd) (j : Nat) (E : XK) : TS :=
  tSeq (tAsg (tCB (cSum g.K) (tCons (tLc (iSeq g.K (tSl (cSl g.K) (cV 0) (tNoPart) (cPart (tC (.int 63))))) (gName 3) (tYes) (tOp cMod (tCB (cInt) (tCons (cV 3) (tNil))) (tC (.int 1000003))) [3]) (tNil))) (gName 2))
  (tRet (tLst (tCons (tC (.int 0)) (tCons (tOp cMod (tCB (cInt) (tCons (tOp (cAdd g.K noOw) (tOp (cAdd g.K noOw) (cV 2) (tOp cMul (tC (.int 7919)) (cV 1))) (tC (.int 101))) (tNil))) (tC (.int 2147483647))) (tCons (tC (.int 0)) (tCons (cV 1) (tNil)))))))
theorem dv__law_box {g : Wd} (T : Top g) {j : Nat} {f : Addr} {cdv : Value} {A : Around} {outer : List Env} {s : Shared} {H : Hp} {E : XK} (hr : Room (j + 1) (A.deeper (envOfC "_law_box" (defScope (top 44)) s.heap.objs.size f cdv))) :
    PSs (cxOf (L2.CX g.P g.w) g.P g.w g.K g.mg g.base ["_law_script", "_law_at", "_law_seed", "_law_cell"] "_law_box" (defScope (top 44)) f cdv A outer s H E) (defBody (top 44)) (rd__law_box g j E) := by
  unfold rd__law_box
  exact (pss_cons (ps_set (i := 2) sc__law_box.nd rfl (Or.inl rfl) (pe_callB (call_cSum rfl) (by rfl) (bl_sum T) bt_sum (pa_cons (pe_lc rfl sc__law_box.nd (pi_seq (pe_slice sl_c (cv 0) po_none (po_c pe_int))) (blkOk_by (own := [("_law_cell", 3)]) (by change blkC ["_law_script", "_law_at", "_law_seed", "_law_cell"] (defScope (top 44)) _ _ = true; decide +kernel)) (fun s H C cl fp => (pg_name sc__law_box.nd rfl (Or.inl rfl))) (fun s H C cl fp => pts_nil) (fun s H C cl fp => (pe_op op_cMod (pe_callTy (call_cInt) (by rfl) (bl_int T) bt_int (pa_cons (cv 3) pa_nil)) pe_int))) pa_nil)))
  (pss_one (ps_ret (pe_lst (pa_cons pe_int (pa_cons (pe_op op_cMod (pe_callTy (call_cInt) (by rfl) (bl_int T) bt_int (pa_cons (pe_op (op_cAdd noOw_ok) (pe_op (op_cAdd noOw_ok) (cv 2) (pe_op op_cMul pe_int (cv 1))) pe_int) pa_nil)) pe_int) (pa_cons pe_int (pa_cons (cv 1) pa_nil))))))))
theorem ok__law_box {g : Wd} (T : Top g) {fd : FuncData} (F : FunD g.K "_law_box" "_law_box" (defArgs (top 44)) (defBody (top 44)) (defScope (top 44)) [] [] (gad g.K "_law_box") fd) {j : Nat} {sp : Sp} (h : ∀ vs H Q E, sp vs H Q E → vs.length = 2 ∧ rd__law_box g j E { nx := fun _ H1 => Q .non H1, rt := Q } (L2.start ["_law_script", "_law_at", "_law_seed", "_law_cell"] vs) H) : FnOk g.P g.w g.K g.mg g.base (L2.CX g.P g.w) (j + 2) (gad g.K "_law_box") fd ["_law_script", "_law_at"] sp :=
  FunD.ok F sc__law_box (fun vs H Q E hh => (h vs H Q E hh).1) fun cdv A outer s H vs Q E hr hh => ⟨rd__law_box g j E, dv__law_box T hr, (h vs H Q E hh).2⟩
theorem fk__law_box {g : Wd} (T : Top g) (j : Nat) {sp : Sp} (h : ∀ vs H Q E, sp vs H Q E → vs.length = 2 ∧ rd__law_box g j E { nx := fun _ H1 => Q .non H1, rt := Q } (L2.start ["_law_script", "_law_at", "_law_seed", "_law_cell"] vs) H) : FnG g (j + 2) (gad g.K "_law_box") sp := by
  obtain ⟨fd, F⟩ := fd__law_box T
  exact fnG_of (ok__law_box T F h) (FunD.bindsN F fun _ _ _ _ _ _ us hl => match us, hl with | [_, _], _ => rfl)
theorem sc__law_take : FnScope ["_law_script", "_law_box_here", "_law_many", "_law_cell", "_law_digit"] ["_law_script", "_law_box_here", "_law_many"] (defScope (top 45)) := ⟨rfl, rfl, rfl, by decide +kernel, rfl, by decide +kernel, by decide +kernel⟩
def rd__law_take (g : Wd) (j : Nat) (E : XK) : TS :=
  tSeq (tIfS (tAnd (cTest (tOp (cEqN g.K false) (tOp (cIx g.K) (cV 1) (tC (.int 0))) (tC (.int 0)))) (cTest (tOp cLt (tOp (cIx g.K) (cV 1) (tC (.int 3))) (tCB (cMin g.K) (tCons (tC (.int 63)) (tCons (tCB (cLen g j) (tCons (cV 0) (tNil))) (tNil))))))) (tSeq (tAsg (tCB (cInt) (tCons (tOp (cIx g.K) (cV 0) (tOp (cIx g.K) (cV 1) (tC (.int 3)))) (tNil))) (gName 3))
  (tSeq (tAsg (tOp (cAdd g.K noOw) (tOp (cIx g.K) (cV 1) (tC (.int 3))) (tC (.int 5))) (gSub (cV 1) (tC (.int 3)) cSetIx))
  (tSeq (tAsg (tOp cMod (tCB (cInt) (tCons (tOp (cAdd g.K noOw) (tOp (cAdd g.K noOw) (tOp cMul (tOp (cIx g.K) (cV 1) (tC (.int 1))) (tC (.int 31))) (cV 3)) (tC (.int 17))) (tNil))) (tC (.int 2147483647))) (gSub (cV 1) (tC (.int 1)) cSetIx))
  (tIfS (cTest (tOp cGe (tCB (cAbs) (tCons (cV 3) (tNil))) (tOp cPow (tC (.int 10)) (tC (.int 18))))) (tAsg (tCB (cAbs) (tCons (cV 3) (tNil))) (gSub (cV 1) (tC (.int 0)) cSetIx)) (tNext))))) (tNext))
  (tSeq (tIfS (cTest (tOp cGt (tOp (cIx g.K) (cV 1) (tC (.int 0))) (tC (.int 0)))) (tSeq (tAsg (tOp cMod (tCB (cInt) (tCons (tOp (cIx g.K) (cV 1) (tC (.int 0))) (tNil))) (cV 2)) (gName 4))
  (tSeq (tAsg (tOp cDiv (tOp (cIx g.K) (cV 1) (tC (.int 0))) (cV 2)) (gSub (cV 1) (tC (.int 0)) cSetIx))
  (tRet (cV 4)))) (tNext))
  (tSeq (tAsg (tOp (cAdd g.K noOw) (tOp (cIx g.K) (cV 1) (tC (.int 2))) (tC (.int 1))) (gSub (cV 1) (tC (.int 2)) cSetIx))
  (tSeq (tAsg (tOp cMod (tCB (cInt) (tCons (tOp (cAdd g.K noOw) (tOp (cAdd g.K noOw) (tOp cMul (tOp (cIx g.K) (cV 1) (tC (.int 1))) (tC (.int 48271))) (tOp cMul (tOp (cIx g.K) (cV 1) (tC (.int 2))) (tC (.int 69621)))) (tC (.int 12345))) (tNil))) (tC (.int 2147483647))) (gSub (cV 1) (tC (.int 1)) cSetIx))
  (tRet (tOp cMod (tOp cDiv (tOp cMod (tCB (cInt) (tCons (tOp (cAdd g.K noOw) (tOp cMul (tOp cDiv (tOp (cIx g.K) (cV 1) (tC (.int 1))) (tC (.int 16))) (tC (.int 40692))) (tOp cMul (tOp (cIx g.K) (cV 1) (tC (.int 2))) (tC (.int 7)))) (tNil))) (tC (.int 2147483399))) (tC (.int 8))) (cV 2))))))
theorem dv__law_take {g : Wd} (T : Top g) {j : Nat} {f : Addr} {cdv : Value} {A : Around} {outer : List Env} {s : Shared} {H : Hp} {E : XK} (hr : Room (j + 1) (A.deeper (envOfC "_law_take" (defScope (top 45)) s.heap.objs.size f cdv))) :
    PSs (cxOf (L2.CX g.P g.w) g.P g.w g.K g.mg g.base ["_law_script", "_law_box_here", "_law_many", "_law_cell", "_law_digit"] "_law_take" (defScope (top 45)) f cdv A outer s H E) (defBody (top 45)) (rd__law_take g j E) := by
  unfold rd__law_take
  exact (pss_cons (ps_if (pw_and (ptc (op_cEq hr.units) (pe_ix ix_c (cv 1) pe_int (fun _ _ => rfl)) pe_int (nomark _)) (pw_and1 (ptc op_cLt (pe_ix ix_c (cv 1) pe_int (fun _ _ => rfl)) (pe_callB (call_cMin rfl) (by rfl) (bl_min T) bt_min (pa_cons pe_int (pa_cons (pe_callB (call_cLen hr) (by rfl) (bl_len T) bt_len (pa_cons (cv 0) pa_nil)) pa_nil))) (nomark _)))).pt (pss_cons (ps_set (i := 3) sc__law_take.nd rfl (Or.inl rfl) (pe_callTy (call_cInt) (by rfl) (bl_int T) bt_int (pa_cons (pe_ix ix_c (cv 0) (pe_ix ix_c (cv 1) pe_int (fun _ _ => rfl)) (fun _ _ => rfl)) pa_nil)))
  (pss_cons (ps_asg (pe_op (op_cAdd noOw_ok) (pe_ix ix_c (cv 1) pe_int (fun _ _ => rfl)) pe_int) (pg_sub (cv 1) pe_int set_c))
  (pss_cons (ps_asg (pe_op op_cMod (pe_callTy (call_cInt) (by rfl) (bl_int T) bt_int (pa_cons (pe_op (op_cAdd noOw_ok) (pe_op (op_cAdd noOw_ok) (pe_op op_cMul (pe_ix ix_c (cv 1) pe_int (fun _ _ => rfl)) pe_int) (cv 3)) pe_int) pa_nil)) pe_int) (pg_sub (cv 1) pe_int set_c))
  (pss_one (ps_if (ptc op_cGe (pe_callB (call_cAbs) (by rfl) (bl_abs T) bt_abs (pa_cons (cv 3) pa_nil)) (pe_op op_cPow pe_int pe_int) (nomark _)) (pss_one (ps_asg (pe_callB (call_cAbs) (by rfl) (bl_abs T) bt_abs (pa_cons (cv 3) pa_nil)) (pg_sub (cv 1) pe_int set_c))) pss_nil))))) pss_nil)
  (pss_cons (ps_if (ptc op_cGt (pe_ix ix_c (cv 1) pe_int (fun _ _ => rfl)) pe_int (nomark _)) (pss_cons (ps_set (i := 4) sc__law_take.nd rfl (Or.inl rfl) (pe_op op_cMod (pe_callTy (call_cInt) (by rfl) (bl_int T) bt_int (pa_cons (pe_ix ix_c (cv 1) pe_int (fun _ _ => rfl)) pa_nil)) (cv 2)))
  (pss_cons (ps_asg (pe_op op_cDiv (pe_ix ix_c (cv 1) pe_int (fun _ _ => rfl)) (cv 2)) (pg_sub (cv 1) pe_int set_c))
  (pss_one (ps_ret (cv 4))))) pss_nil)
  (pss_cons (ps_asg (pe_op (op_cAdd noOw_ok) (pe_ix ix_c (cv 1) pe_int (fun _ _ => rfl)) pe_int) (pg_sub (cv 1) pe_int set_c))
  (pss_cons (ps_asg (pe_op op_cMod (pe_callTy (call_cInt) (by rfl) (bl_int T) bt_int (pa_cons (pe_op (op_cAdd noOw_ok) (pe_op (op_cAdd noOw_ok) (pe_op op_cMul (pe_ix ix_c (cv 1) pe_int (fun _ _ => rfl)) pe_int) (pe_op op_cMul (pe_ix ix_c (cv 1) pe_int (fun _ _ => rfl)) pe_int)) pe_int) pa_nil)) pe_int) (pg_sub (cv 1) pe_int set_c))
  (pss_one (ps_ret (pe_op op_cMod (pe_op op_cDiv (pe_op op_cMod (pe_callTy (call_cInt) (by rfl) (bl_int T) bt_int (pa_cons (pe_op (op_cAdd noOw_ok) (pe_op op_cMul (pe_op op_cDiv (pe_ix ix_c (cv 1) pe_int (fun _ _ => rfl)) pe_int) pe_int) (pe_op op_cMul (pe_ix ix_c (cv 1) pe_int (fun _ _ => rfl)) pe_int)) pa_nil)) pe_int) pe_int) (cv 2))))))))
theorem ok__law_take {g : Wd} (T : Top g) {fd : FuncData} (F : FunD g.K "_law_take" "_law_take" (defArgs (top 45)) (defBody (top 45)) (defScope (top 45)) [] [] (gad g.K "_law_take") fd) {j : Nat} {sp : Sp} (h : ∀ vs H Q E, sp vs H Q E → vs.length = 3 ∧ rd__law_take g j E { nx := fun _ H1 => Q .non H1, rt := Q } (L2.start ["_law_script", "_law_box_here", "_law_many", "_law_cell", "_law_digit"] vs) H) : FnOk g.P g.w g.K g.mg g.base (L2.CX g.P g.w) (j + 2) (gad g.K "_law_take") fd ["_law_script", "_law_box_here", "_law_many"] sp :=
  FunD.ok F sc__law_take (fun vs H Q E hh => (h vs H Q E hh).1) fun cdv A outer s H vs Q E hr hh => ⟨rd__law_take g j E, dv__law_take T hr, (h vs H Q E hh).2⟩
theorem fk__law_take {g : Wd} (T : Top g) (j : Nat) {sp : Sp} (h : ∀ vs H Q E, sp vs H Q E → vs.length = 3 ∧ rd__law_take g j E { nx := fun _ H1 => Q .non H1, rt := Q } (L2.start ["_law_script", "_law_box_here", "_law_many", "_law_cell", "_law_digit"] vs) H) : FnG g (j + 2) (gad g.K "_law_take") sp := by
  obtain ⟨fd, F⟩ := fd__law_take T
  exact fnG_of (ok__law_take T F h) (FunD.bindsN F fun _ _ _ _ _ _ us hl => match us, hl with | [_, _, _], _ => rfl)
theorem sc__law_round : FnScope ["_law_pays_here", "_law_made", "_law_pay"] ["_law_pays_here"] (defScope (top 46)) := ⟨rfl, rfl, rfl, by decide +kernel, rfl, by decide +kernel, by decide +kernel⟩
def rd__law_round (g : Wd) (j : Nat) (E : XK) : TS :=
  tSeq (tAsg (cMake g j (fun cls d _ H => E cls d H) (gad g.K "Round") (tCons (tOp (cIx g.K) (cV 0) (tC (.int 0))) (tNil))) (gName 1))
  (tSeq (tFor (iSeq g.K (tSl (cSl g.K) (cV 0) (cPart (tC (.int 1))) (tNoPart))) (gName 2) (tAsg (tOp (cAdd g.K (OwAdd g j)) (cV 1) (cMake g j (fun cls d _ H => E cls d H) (gad g.K "Round") (tCons (cV 2) (tNil)))) (gName 1)))
  (tRet (cV 1)))
theorem dv__law_round {g : Wd} (T : Top g) {j : Nat} {f : Addr} {cdv : Value} {A : Around} {outer : List Env} {s : Shared} {H : Hp} {E : XK} (hr : Room (j + 1) (A.deeper (envOfC "_law_round" (defScope (top 46)) s.heap.objs.size f cdv))) :
    PSs (cxOf (L2.CX g.P g.w) g.P g.w g.K g.mg g.base ["_law_pays_here", "_law_made", "_law_pay"] "_law_round" (defScope (top 46)) f cdv A outer s H E) (defBody (top 46)) (rd__law_round g j E) := by
  unfold rd__law_round
  exact (pss_cons (ps_set (i := 1) sc__law_round.nd rfl (Or.inl rfl) (pe_cMake (takes_of rfl rfl rfl rfl) (hr.mono (Nat.le_succ _)) (gf_Round T) (by rfl) (pa_cons (pe_ix ix_c (cv 0) pe_int (fun _ _ => rfl)) pa_nil)))
  (pss_cons (ps_for (passes_of rfl) rfl (pi_seq (pe_slice sl_c (cv 0) (po_c pe_int) po_none)) (pg_name sc__law_round.nd rfl (Or.inl rfl)) (pss_one (ps_set (i := 1) sc__law_round.nd rfl (Or.inl rfl) (pe_op (op_cAdd (owAdd_ok (hr.mono (Nat.le_succ _)))) (cv 1) (pe_cMake (takes_of rfl rfl rfl rfl) (hr.mono (Nat.le_succ _)) (gf_Round T) (by rfl) (pa_cons (cv 2) pa_nil))))))
  (pss_one (ps_ret (cv 1)))))
theorem ok__law_round {g : Wd} (T : Top g) {fd : FuncData} (F : FunD g.K "_law_round" "_law_round" (defArgs (top 46)) (defBody (top 46)) (defScope (top 46)) [] [] (gad g.K "_law_round") fd) {j : Nat} {sp : Sp} (h : ∀ vs H Q E, sp vs H Q E → vs.length = 1 ∧ rd__law_round g j E { nx := fun _ H1 => Q .non H1, rt := Q } (L2.start ["_law_pays_here", "_law_made", "_law_pay"] vs) H) : FnOk g.P g.w g.K g.mg g.base (L2.CX g.P g.w) (j + 2) (gad g.K "_law_round") fd ["_law_pays_here"] sp :=
  FunD.ok F sc__law_round (fun vs H Q E hh => (h vs H Q E hh).1) fun cdv A outer s H vs Q E hr hh => ⟨rd__law_round g j E, dv__law_round T hr, (h vs H Q E hh).2⟩
theorem fk__law_round {g : Wd} (T : Top g) (j : Nat) {sp : Sp} (h : ∀ vs H Q E, sp vs H Q E → vs.length = 1 ∧ rd__law_round g j E { nx := fun _ H1 => Q .non H1, rt := Q } (L2.start ["_law_pays_here", "_law_made", "_law_pay"] vs) H) : FnG g (j + 2) (gad g.K "_law_round") sp := by
  obtain ⟨fd, F⟩ := fd__law_round T
  exact fnG_of (ok__law_round T F h) (FunD.bindsN F fun _ _ _ _ _ _ us hl => match us, hl with | [_], _ => rfl)
theorem sc__law_freed : FnScope ["_law_word", "_law_index", "_law_spot", "_law_turn"] ["_law_word", "_law_index"] (defScope (top 47)) := ⟨rfl, rfl, rfl, by decide +kernel, rfl, by decide +kernel, by decide +kernel⟩
def rd__law_freed (g : Wd) (j : Nat) (E : XK) : TS :=
  tSeq (tAsg (tUn cNeg (tC (.int 1))) (gName 2))
  (tSeq (tFor (iRng1 (tCons (tOp (cAdd g.K noOw) (cV 1) (tC (.int 1))) (tNil))) (gName 3) (tAsg (cStrM mFind (cV 0) (tCons (tC (.str "1")) (tCons (tOp (cAdd g.K noOw) (cV 2) (tC (.int 1))) (tNil)))) (gName 2)))
  (tRet (cStrM mLstrip (tOp (cAdd g.K noOw) (tOp (cAdd g.K noOw) (tSl (cSl g.K) (cV 0) (tNoPart) (cPart (cV 2))) (tC (.str "0"))) (tSl (cSl g.K) (cV 0) (cPart (tOp (cAdd g.K noOw) (cV 2) (tC (.int 1)))) (tNoPart))) (tCons (tC (.str "0")) (tNil)))))
theorem dv__law_freed {g : Wd} (T : Top g) {j : Nat} {f : Addr} {cdv : Value} {A : Around} {outer : List Env} {s : Shared} {H : Hp} {E : XK} (hr : Room (j + 1) (A.deeper (envOfC "_law_freed" (defScope (top 47)) s.heap.objs.size f cdv))) :
    PSs (cxOf (L2.CX g.P g.w) g.P g.w g.K g.mg g.base ["_law_word", "_law_index", "_law_spot", "_law_turn"] "_law_freed" (defScope (top 47)) f cdv A outer s H E) (defBody (top 47)) (rd__law_freed g j E) := by
  unfold rd__law_freed
  exact (pss_cons (ps_set (i := 2) sc__law_freed.nd rfl (Or.inl rfl) (pe_un un_cNeg pe_int))
  (pss_cons (ps_for (passes_of rfl) rfl (pi_range1 (by rfl) (bl_range T) (pa_cons (pe_op (op_cAdd noOw_ok) (cv 1) pe_int) pa_nil)) (pg_name sc__law_freed.nd rfl (Or.inl rfl)) (pss_one (ps_set (i := 2) sc__law_freed.nd rfl (Or.inl rfl) (pe_sm PySem.F.slot_str_find PySem.F.type_str_find m_find (cv 0) (pa_cons pe_str (pa_cons (pe_op (op_cAdd noOw_ok) (cv 2) pe_int) pa_nil))))))
  (pss_one (ps_ret (pe_sm PySem.F.slot_str_lstrip PySem.F.type_str_lstrip m_lstrip (pe_op (op_cAdd noOw_ok) (pe_op (op_cAdd noOw_ok) (pe_slice sl_c (cv 0) po_none (po_c (cv 2))) pe_str) (pe_slice sl_c (cv 0) (po_c (pe_op (op_cAdd noOw_ok) (cv 2) pe_int)) po_none)) (pa_cons pe_str pa_nil))))))
theorem ok__law_freed {g : Wd} (T : Top g) {fd : FuncData} (F : FunD g.K "_law_freed" "_law_freed" (defArgs (top 47)) (defBody (top 47)) (defScope (top 47)) [] [] (gad g.K "_law_freed") fd) {j : Nat} {sp : Sp} (h : ∀ vs H Q E, sp vs H Q E → vs.length = 2 ∧ rd__law_freed g j E { nx := fun _ H1 => Q .non H1, rt := Q } (L2.start ["_law_word", "_law_index", "_law_spot", "_law_turn"] vs) H) : FnOk g.P g.w g.K g.mg g.base (L2.CX g.P g.w) (j + 2) (gad g.K "_law_freed") fd ["_law_word", "_law_index"] sp :=
  FunD.ok F sc__law_freed (fun vs H Q E hh => (h vs H Q E hh).1) fun cdv A outer s H vs Q E hr hh => ⟨rd__law_freed g j E, dv__law_freed T hr, (h vs H Q E hh).2⟩
theorem fk__law_freed {g : Wd} (T : Top g) (j : Nat) {sp : Sp} (h : ∀ vs H Q E, sp vs H Q E → vs.length = 2 ∧ rd__law_freed g j E { nx := fun _ H1 => Q .non H1, rt := Q } (L2.start ["_law_word", "_law_index", "_law_spot", "_law_turn"] vs) H) : FnG g (j + 2) (gad g.K "_law_freed") sp := by
  obtain ⟨fd, F⟩ := fd__law_freed T
  exact fnG_of (ok__law_freed T F h) (FunD.bindsN F fun _ _ _ _ _ _ us hl => match us, hl with | [_, _], _ => rfl)
theorem sc__law_carried : FnScope ["_law_word", "_law_many", "_law_turn"] ["_law_word", "_law_many"] (defScope (top 48)) := ⟨rfl, rfl, rfl, by decide +kernel, rfl, by decide +kernel, by decide +kernel⟩
def rd__law_carried (g : Wd) (j : Nat) (E : XK) : TS :=
  tSeq (tFor (iRng1 (tCons (cV 1) (tNil))) (gName 2) (tAsg (cStrM mLstrip (tOp (cAdd g.K noOw) (tSl (cSl g.K) (cV 0) (cPart (tC (.int 1))) (tNoPart)) (tC (.str "1"))) (tCons (tC (.str "0")) (tNil))) (gName 0)))
  (tRet (cV 0))
theorem dv__law_carried {g : Wd} (T : Top g) {j : Nat} {f : Addr} {cdv : Value} {A : Around} {outer : List Env} {s : Shared} {H : Hp} {E : XK} (hr : Room (j + 1) (A.deeper (envOfC "_law_carried" (defScope (top 48)) s.heap.objs.size f cdv))) :
    PSs (cxOf (L2.CX g.P g.w) g.P g.w g.K g.mg g.base ["_law_word", "_law_many", "_law_turn"] "_law_carried" (defScope (top 48)) f cdv A outer s H E) (defBody (top 48)) (rd__law_carried g j E) := by
  unfold rd__law_carried
  exact (pss_cons (ps_for (passes_of rfl) rfl (pi_range1 (by rfl) (bl_range T) (pa_cons (cv 1) pa_nil)) (pg_name sc__law_carried.nd rfl (Or.inl rfl)) (pss_one (ps_set (i := 0) sc__law_carried.nd rfl (Or.inl rfl) (pe_sm PySem.F.slot_str_lstrip PySem.F.type_str_lstrip m_lstrip (pe_op (op_cAdd noOw_ok) (pe_slice sl_c (cv 0) (po_c pe_int) po_none) pe_str) (pa_cons pe_str pa_nil)))))
  (pss_one (ps_ret (cv 0))))
theorem ok__law_carried {g : Wd} (T : Top g) {fd : FuncData} (F : FunD g.K "_law_carried" "_law_carried" (defArgs (top 48)) (defBody (top 48)) (defScope (top 48)) [] [] (gad g.K "_law_carried") fd) {j : Nat} {sp : Sp} (h : ∀ vs H Q E, sp vs H Q E → vs.length = 2 ∧ rd__law_carried g j E { nx := fun _ H1 => Q .non H1, rt := Q } (L2.start ["_law_word", "_law_many", "_law_turn"] vs) H) : FnOk g.P g.w g.K g.mg g.base (L2.CX g.P g.w) (j + 2) (gad g.K "_law_carried") fd ["_law_word", "_law_many"] sp :=
  FunD.ok F sc__law_carried (fun vs H Q E hh => (h vs H Q E hh).1) fun cdv A outer s H vs Q E hr hh => ⟨rd__law_carried g j E, dv__law_carried T hr, (h vs H Q E hh).2⟩
theorem fk__law_carried {g : Wd} (T : Top g) (j : Nat) {sp : Sp} (h : ∀ vs H Q E, sp vs H Q E → vs.length = 2 ∧ rd__law_carried g j E { nx := fun _ H1 => Q .non H1, rt := Q } (L2.start ["_law_word", "_law_many", "_law_turn"] vs) H) : FnG g (j + 2) (gad g.K "_law_carried") sp := by
  obtain ⟨fd, F⟩ := fd__law_carried T
  exact fnG_of (ok__law_carried T F h) (FunD.bindsN F fun _ _ _ _ _ _ us hl => match us, hl with | [_, _], _ => rfl)
theorem sc__law_amount : FnScope ["_law_plan", "_law_word", "_law_wide", "_law_pays_here", "_law_beat"] ["_law_plan", "_law_word", "_law_wide", "_law_pays_here", "_law_beat"] (defScope (top 49)) := ⟨rfl, rfl, rfl, by decide +kernel, rfl, by decide +kernel, by decide +kernel⟩
def rd__law_amount (g : Wd) (j : Nat) (E : XK) : TS :=
  tSeq (tIfS (tOr (cTest (tOp (cEqN g.K false) (tCB (cLen g j) (tCons (cV 1) (tNil))) (cV 2))) (cTest (tOp cGt (tOp cSub (cV 2) (tCB (cLen g j) (tCons (cV 1) (tNil)))) (cV 0)))) (tRet (tC (.int 0))) (tNext))
  (tRet (tCB (cMin g.K) (tCons (tOp (cIx g.K) (cV 3) (tOp cMod (tCB (cInt) (tCons (cV 4) (tNil))) (tCB (cLen g j) (tCons (cV 3) (tNil))))) (tCons (cStrM mCount (cV 1) (tCons (tC (.str "1")) (tNil))) (tNil)))))
theorem dv__law_amount {g : Wd} (T : Top g) {j : Nat} {f : Addr} {cdv : Value} {A : Around} {outer : List Env} {s : Shared} {H : Hp} {E : XK} (hr : Room (j + 1) (A.deeper (envOfC "_law_amount" (defScope (top 49)) s.heap.objs.size f cdv))) :
    PSs (cxOf (L2.CX g.P g.w) g.P g.w g.K g.mg g.base ["_law_plan", "_law_word", "_law_wide", "_law_pays_here", "_law_beat"] "_law_amount" (defScope (top 49)) f cdv A outer s H E) (defBody (top 49)) (rd__law_amount g j E) := by
  unfold rd__law_amount
  exact (pss_cons (ps_if (pw_or (ptc (op_cEq hr.units) (pe_callB (call_cLen hr) (by rfl) (bl_len T) bt_len (pa_cons (cv 1) pa_nil)) (cv 2) (nomark _)) (pw_or1 (ptc op_cGt (pe_op op_cSub (cv 2) (pe_callB (call_cLen hr) (by rfl) (bl_len T) bt_len (pa_cons (cv 1) pa_nil))) (cv 0) (nomark _)))).pt (pss_one (ps_ret pe_int)) pss_nil)
  (pss_one (ps_ret (pe_callB (call_cMin rfl) (by rfl) (bl_min T) bt_min (pa_cons (pe_ix ix_c (cv 3) (pe_op op_cMod (pe_callTy (call_cInt) (by rfl) (bl_int T) bt_int (pa_cons (cv 4) pa_nil)) (pe_callB (call_cLen hr) (by rfl) (bl_len T) bt_len (pa_cons (cv 3) pa_nil))) (fun _ _ => rfl)) (pa_cons (pe_sm PySem.F.slot_str_count PySem.F.type_str_count m_count (cv 1) (pa_cons pe_str pa_nil)) pa_nil))))))
theorem ok__law_amount {g : Wd} (T : Top g) {fd : FuncData} (F : FunD g.K "_law_amount" "_law_amount" (defArgs (top 49)) (defBody (top 49)) (defScope (top 49)) [] [] (gad g.K "_law_amount") fd) {j : Nat} {sp : Sp} (h : ∀ vs H Q E, sp vs H Q E → vs.length = 5 ∧ rd__law_amount g j E { nx := fun _ H1 => Q .non H1, rt := Q } (L2.start ["_law_plan", "_law_word", "_law_wide", "_law_pays_here", "_law_beat"] vs) H) : FnOk g.P g.w g.K g.mg g.base (L2.CX g.P g.w) (j + 2) (gad g.K "_law_amount") fd ["_law_plan", "_law_word", "_law_wide", "_law_pays_here", "_law_beat"] sp :=
  FunD.ok F sc__law_amount (fun vs H Q E hh => (h vs H Q E hh).1) fun cdv A outer s H vs Q E hr hh => ⟨rd__law_amount g j E, dv__law_amount T hr, (h vs H Q E hh).2⟩
theorem fk__law_amount {g : Wd} (T : Top g) (j : Nat) {sp : Sp} (h : ∀ vs H Q E, sp vs H Q E → vs.length = 5 ∧ rd__law_amount g j E { nx := fun _ H1 => Q .non H1, rt := Q } (L2.start ["_law_plan", "_law_word", "_law_wide", "_law_pays_here", "_law_beat"] vs) H) : FnG g (j + 2) (gad g.K "_law_amount") sp := by
  obtain ⟨fd, F⟩ := fd__law_amount T
  exact fnG_of (ok__law_amount T F h) (FunD.bindsN F fun _ _ _ _ _ _ us hl => match us, hl with | [_, _, _, _, _], _ => rfl)
theorem sc__law_play : FnScope ["_law_plan", "_law_moves_here", "_law_wide", "_law_many", "_law_pays_here", "_law_word", "_law_told", "_law_k"] ["_law_plan", "_law_moves_here", "_law_wide", "_law_many", "_law_pays_here"] (defScope (top 50)) := ⟨rfl, rfl, rfl, by decide +kernel, rfl, by decide +kernel, by decide +kernel⟩
def rd__law_play (g : Wd) (j : Nat) (E : XK) : TS :=
  tSeq (tAsg (tC (.str "")) (gName 5))
  (tSeq (tAsg (tLst (tNil)) (gName 6))
  (tSeq (tFor (iRng1 (tCons (tCB (cLen g j) (tCons (cV 1) (tNil))) (tNil))) (gName 7) (tSeq (tIfS (cTest (tOp (cIsN true) (tOp (cIx g.K) (cV 1) (cV 7)) (tC .non))) (tAsg (cCall g j (fun cls d _ H => E cls d H) (gad g.K "_law_freed") (tCons (cV 5) (tCons (tOp (cIx g.K) (cV 1) (cV 7)) (tNil)))) (gName 5)) (tNext))
  (tSeq (tAsg (cCall g j (fun cls d _ H => E cls d H) (gad g.K "_law_carried") (tCons (cV 5) (tCons (cCall g j (fun cls d _ H => E cls d H) (gad g.K "_law_amount") (tCons (cV 0) (tCons (cV 5) (tCons (cV 2) (tCons (cV 4) (tCons (cV 7) (tNil))))))) (tNil)))) (gName 5))
  (tSeq (tIfS (cTest (tOp (cEqN g.K false) (tCB (cLen g j) (tCons (cV 5) (tNil))) (cV 2))) (tRet (cV 6)) (tNext))
  (tSeq (tAsg (tOp (cAdd g.K noOw) (cV 5) (tC (.str "1"))) (gName 5))
  (tDrop (cApp g.K (cV 6) (tCons (cV 5) (tNil)))))))))
  (tRet (cV 6))))
theorem dv__law_play {g : Wd} (T : Top g) {j : Nat} {f : Addr} {cdv : Value} {A : Around} {outer : List Env} {s : Shared} {H : Hp} {E : XK} (hr : Room (j + 1) (A.deeper (envOfC "_law_play" (defScope (top 50)) s.heap.objs.size f cdv))) :
    PSs (cxOf (L2.CX g.P g.w) g.P g.w g.K g.mg g.base ["_law_plan", "_law_moves_here", "_law_wide", "_law_many", "_law_pays_here", "_law_word", "_law_told", "_law_k"] "_law_play" (defScope (top 50)) f cdv A outer s H E) (defBody (top 50)) (rd__law_play g j E) := by
  unfold rd__law_play
  exact (pss_cons (ps_set (i := 5) sc__law_play.nd rfl (Or.inl rfl) pe_str)
  (pss_cons (ps_set (i := 6) sc__law_play.nd rfl (Or.inl rfl) (pe_lst pa_nil))
  (pss_cons (ps_for (passes_of rfl) rfl (pi_range1 (by rfl) (bl_range T) (pa_cons (pe_callB (call_cLen hr) (by rfl) (bl_len T) bt_len (pa_cons (cv 1) pa_nil)) pa_nil)) (pg_name sc__law_play.nd rfl (Or.inl rfl)) (pss_cons (ps_if (ptc op_cIsNot (pe_ix ix_c (cv 1) (cv 7) (fun _ _ => rfl)) pe_non (nomark _)) (pss_one (ps_set (i := 5) sc__law_play.nd rfl (Or.inl rfl) (pe_cCall (takes_of rfl rfl rfl rfl) (hr.mono (Nat.le_succ _)) (gf__law_freed T) (by rfl) (pa_cons (cv 5) (pa_cons (pe_ix ix_c (cv 1) (cv 7) (fun _ _ => rfl)) pa_nil))))) pss_nil)
  (pss_cons (ps_set (i := 5) sc__law_play.nd rfl (Or.inl rfl) (pe_cCall (takes_of rfl rfl rfl rfl) (hr.mono (Nat.le_succ _)) (gf__law_carried T) (by rfl) (pa_cons (cv 5) (pa_cons (pe_cCall (takes_of rfl rfl rfl rfl) (hr.mono (Nat.le_succ _)) (gf__law_amount T) (by rfl) (pa_cons (cv 0) (pa_cons (cv 5) (pa_cons (cv 2) (pa_cons (cv 4) (pa_cons (cv 7) pa_nil)))))) pa_nil))))
  (pss_cons (ps_if (ptc (op_cEq hr.units) (pe_callB (call_cLen hr) (by rfl) (bl_len T) bt_len (pa_cons (cv 5) pa_nil)) (cv 2) (nomark _)) (pss_one (ps_ret (cv 6))) pss_nil)
  (pss_cons (ps_set (i := 5) sc__law_play.nd rfl (Or.inl rfl) (pe_op (op_cAdd noOw_ok) (cv 5) pe_str))
  (pss_one (ps_expr (pe_cApp (cv 6) (pa_cons (cv 5) pa_nil)))))))))
  (pss_one (ps_ret (cv 6))))))
theorem ok__law_play {g : Wd} (T : Top g) {fd : FuncData} (F : FunD g.K "_law_play" "_law_play" (defArgs (top 50)) (defBody (top 50)) (defScope (top 50)) [] [] (gad g.K "_law_play") fd) {j : Nat} {sp : Sp} (h : ∀ vs H Q E, sp vs H Q E → vs.length = 5 ∧ rd__law_play g j E { nx := fun _ H1 => Q .non H1, rt := Q } (L2.start ["_law_plan", "_law_moves_here", "_law_wide", "_law_many", "_law_pays_here", "_law_word", "_law_told", "_law_k"] vs) H) : FnOk g.P g.w g.K g.mg g.base (L2.CX g.P g.w) (j + 2) (gad g.K "_law_play") fd ["_law_plan", "_law_moves_here", "_law_wide", "_law_many", "_law_pays_here"] sp :=
  FunD.ok F sc__law_play (fun vs H Q E hh => (h vs H Q E hh).1) fun cdv A outer s H vs Q E hr hh => ⟨rd__law_play g j E, dv__law_play T hr, (h vs H Q E hh).2⟩
theorem fk__law_play {g : Wd} (T : Top g) (j : Nat) {sp : Sp} (h : ∀ vs H Q E, sp vs H Q E → vs.length = 5 ∧ rd__law_play g j E { nx := fun _ H1 => Q .non H1, rt := Q } (L2.start ["_law_plan", "_law_moves_here", "_law_wide", "_law_many", "_law_pays_here", "_law_word", "_law_told", "_law_k"] vs) H) : FnG g (j + 2) (gad g.K "_law_play") sp := by
  obtain ⟨fd, F⟩ := fd__law_play T
  exact fnG_of (ok__law_play T F h) (FunD.bindsN F fun _ _ _ _ _ _ us hl => match us, hl with | [_, _, _, _, _], _ => rfl)
theorem sc__law_is_row : FnScope ["_law_row", "_law_many", "_law_ones", "_law_move"] ["_law_row", "_law_many"] (defScope (top 51)) := ⟨rfl, rfl, rfl, by decide +kernel, rfl, by decide +kernel, by decide +kernel⟩
def rd__law_is_row (g : Wd) (j : Nat) (E : XK) : TS :=
  tSeq (tIfS (tNot (cTru g.K (tCB (cIsi g.K) (tCons (cV 0) (tCons (tC (.ty "list")) (tNil)))))) (tRet (tC (.bl false))) (tNext))
  (tSeq (tAsg (tC (.int 0)) (gName 2))
  (tSeq (tFor (iSeq g.K (cV 0)) (gName 3) (tSeq (tIfS (cTest (tOp (cIsN false) (cV 3) (tC .non))) (tAsg (tOp (cAdd g.K noOw) (cV 2) (tC (.int 1))) (gName 2)) (tIfS (tOr (tNot (cTru g.K (cCall g j (fun cls d _ H => E cls d H) (gad g.K "_law_is_count") (tCons (cV 3) (tNil))))) (tOr (cTest (tOp cLt (cV 3) (tC (.int 0)))) (cTest (tOp cGe (cV 3) (cV 2))))) (tRet (tC (.bl false))) (tNext)))
  (tIfS (cTest (tOp cGt (cV 2) (cV 1))) (tRet (tC (.bl false))) (tNext))))
  (tRet (tC (.bl true)))))
theorem dv__law_is_row {g : Wd} (T : Top g) {j : Nat} {f : Addr} {cdv : Value} {A : Around} {outer : List Env} {s : Shared} {H : Hp} {E : XK} (hr : Room (j + 1) (A.deeper (envOfC "_law_is_row" (defScope (top 51)) s.heap.objs.size f cdv))) :
    PSs (cxOf (L2.CX g.P g.w) g.P g.w g.K g.mg g.base ["_law_row", "_law_many", "_law_ones", "_law_move"] "_law_is_row" (defScope (top 51)) f cdv A outer s H E) (defBody (top 51)) (rd__law_is_row g j E) := by
  unfold rd__law_is_row
  exact (pss_cons (ps_if (pt_not (ptv (pe_callB (call_cIsi) (by rfl) (bl_isinstance T) bt_isinstance (pa_cons (cv 0) (pa_cons (pe_bltn (v := .ty "list") (by rfl) (bl_list T) bt_list (by rfl)) pa_nil))))) (pss_one (ps_ret pe_bl)) pss_nil)
  (pss_cons (ps_set (i := 2) sc__law_is_row.nd rfl (Or.inl rfl) pe_int)
  (pss_cons (ps_for (passes_of rfl) rfl (pi_seq (cv 0)) (pg_name sc__law_is_row.nd rfl (Or.inl rfl)) (pss_cons (ps_if (ptc op_cIs (cv 3) pe_non (nomark _)) (pss_one (ps_set (i := 2) sc__law_is_row.nd rfl (Or.inl rfl) (pe_op (op_cAdd noOw_ok) (cv 2) pe_int))) (pss_one (ps_if (pw_or (pt_not (ptv (pe_cCall (takes_of rfl rfl rfl rfl) (hr.mono (Nat.le_succ _)) (gf__law_is_count T) (by rfl) (pa_cons (cv 3) pa_nil)))) (pw_or (ptc op_cLt (cv 3) pe_int (nomark _)) (pw_or1 (ptc op_cGe (cv 3) (cv 2) (nomark _))))).pt (pss_one (ps_ret pe_bl)) pss_nil)))
  (pss_one (ps_if (ptc op_cGt (cv 2) (cv 1) (nomark _)) (pss_one (ps_ret pe_bl)) pss_nil))))
  (pss_one (ps_ret pe_bl)))))
theorem ok__law_is_row {g : Wd} (T : Top g) {fd : FuncData} (F : FunD g.K "_law_is_row" "_law_is_row" (defArgs (top 51)) (defBody (top 51)) (defScope (top 51)) [] [] (gad g.K "_law_is_row") fd) {j : Nat} {sp : Sp} (h : ∀ vs H Q E, sp vs H Q E → vs.length = 2 ∧ rd__law_is_row g j E { nx := fun _ H1 => Q .non H1, rt := Q } (L2.start ["_law_row", "_law_many", "_law_ones", "_law_move"] vs) H) : FnOk g.P g.w g.K g.mg g.base (L2.CX g.P g.w) (j + 2) (gad g.K "_law_is_row") fd ["_law_row", "_law_many"] sp :=
  FunD.ok F sc__law_is_row (fun vs H Q E hh => (h vs H Q E hh).1) fun cdv A outer s H vs Q E hr hh => ⟨rd__law_is_row g j E, dv__law_is_row T hr, (h vs H Q E hh).2⟩
theorem fk__law_is_row {g : Wd} (T : Top g) (j : Nat) {sp : Sp} (h : ∀ vs H Q E, sp vs H Q E → vs.length = 2 ∧ rd__law_is_row g j E { nx := fun _ H1 => Q .non H1, rt := Q } (L2.start ["_law_row", "_law_many", "_law_ones", "_law_move"] vs) H) : FnG g (j + 2) (gad g.K "_law_is_row") sp := by
  obtain ⟨fd, F⟩ := fd__law_is_row T
  exact fnG_of (ok__law_is_row T F h) (FunD.bindsN F fun _ _ _ _ _ _ us hl => match us, hl with | [_, _], _ => rfl)
theorem sc__law_pays : FnScope ["_law_script", "_law_box_here", "_law_most", "_law_pays_here", "_law_k", "_law_top"] ["_law_script", "_law_box_here", "_law_most"] (defScope (top 52)) := ⟨rfl, rfl, rfl, by decide +kernel, rfl, by decide +kernel, by decide +kernel⟩
def rd__law_pays (g : Wd) (j : Nat) (E : XK) : TS :=
  tSeq (tAsg (tLst (tNil)) (gName 3))
  (tSeq (tFor (iRng1 (tCons (tOp (cAdd g.K noOw) (tC (.int 1)) (cCall g j (fun cls d _ H => E cls d H) (gad g.K "_law_take") (tCons (cV 0) (tCons (cV 1) (tCons (cV 2) (tNil)))))) (tNil))) (gName 4) (tSeq (tAsg (tOp (cIx g.K) (tLst (tCons (tC (.int 2)) (tCons (tC (.int 3)) (tCons (tC (.int 4)) (tCons (tC (.int 6)) (tNil)))))) (cCall g j (fun cls d _ H => E cls d H) (gad g.K "_law_take") (tCons (cV 0) (tCons (cV 1) (tCons (tC (.int 4)) (tNil)))))) (gName 5))
  (tDrop (cApp g.K (cV 3) (tCons (cCall g j (fun cls d _ H => E cls d H) (gad g.K "_law_take") (tCons (cV 0) (tCons (cV 1) (tCons (cV 5) (tNil))))) (tNil))))))
  (tRet (cV 3)))
theorem dv__law_pays {g : Wd} (T : Top g) {j : Nat} {f : Addr} {cdv : Value} {A : Around} {outer : List Env} {s : Shared} {H : Hp} {E : XK} (hr : Room (j + 1) (A.deeper (envOfC "_law_pays" (defScope (top 52)) s.heap.objs.size f cdv))) :
    PSs (cxOf (L2.CX g.P g.w) g.P g.w g.K g.mg g.base ["_law_script", "_law_box_here", "_law_most", "_law_pays_here", "_law_k", "_law_top"] "_law_pays" (defScope (top 52)) f cdv A outer s H E) (defBody (top 52)) (rd__law_pays g j E) := by
  unfold rd__law_pays
  exact (pss_cons (ps_set (i := 3) sc__law_pays.nd rfl (Or.inl rfl) (pe_lst pa_nil))
  (pss_cons (ps_for (passes_of rfl) rfl (pi_range1 (by rfl) (bl_range T) (pa_cons (pe_op (op_cAdd noOw_ok) pe_int (pe_cCall (takes_of rfl rfl rfl rfl) (hr.mono (Nat.le_succ _)) (gf__law_take T) (by rfl) (pa_cons (cv 0) (pa_cons (cv 1) (pa_cons (cv 2) pa_nil))))) pa_nil)) (pg_name sc__law_pays.nd rfl (Or.inl rfl)) (pss_cons (ps_set (i := 5) sc__law_pays.nd rfl (Or.inl rfl) (pe_ix ix_c (pe_lst (pa_cons pe_int (pa_cons pe_int (pa_cons pe_int (pa_cons pe_int pa_nil))))) (pe_cCall (takes_of rfl rfl rfl rfl) (hr.mono (Nat.le_succ _)) (gf__law_take T) (by rfl) (pa_cons (cv 0) (pa_cons (cv 1) (pa_cons pe_int pa_nil)))) (fun _ _ => rfl)))
  (pss_one (ps_expr (pe_cApp (cv 3) (pa_cons (pe_cCall (takes_of rfl rfl rfl rfl) (hr.mono (Nat.le_succ _)) (gf__law_take T) (by rfl) (pa_cons (cv 0) (pa_cons (cv 1) (pa_cons (cv 5) pa_nil)))) pa_nil))))))
  (pss_one (ps_ret (cv 3)))))
theorem ok__law_pays {g : Wd} (T : Top g) {fd : FuncData} (F : FunD g.K "_law_pays" "_law_pays" (defArgs (top 52)) (defBody (top 52)) (defScope (top 52)) [] [] (gad g.K "_law_pays") fd) {j : Nat} {sp : Sp} (h : ∀ vs H Q E, sp vs H Q E → vs.length = 3 ∧ rd__law_pays g j E { nx := fun _ H1 => Q .non H1, rt := Q } (L2.start ["_law_script", "_law_box_here", "_law_most", "_law_pays_here", "_law_k", "_law_top"] vs) H) : FnOk g.P g.w g.K g.mg g.base (L2.CX g.P g.w) (j + 2) (gad g.K "_law_pays") fd ["_law_script", "_law_box_here", "_law_most"] sp :=
  FunD.ok F sc__law_pays (fun vs H Q E hh => (h vs H Q E hh).1) fun cdv A outer s H vs Q E hr hh => ⟨rd__law_pays g j E, dv__law_pays T hr, (h vs H Q E hh).2⟩
theorem fk__law_pays {g : Wd} (T : Top g) (j : Nat) {sp : Sp} (h : ∀ vs H Q E, sp vs H Q E → vs.length = 3 ∧ rd__law_pays g j E { nx := fun _ H1 => Q .non H1, rt := Q } (L2.start ["_law_script", "_law_box_here", "_law_most", "_law_pays_here", "_law_k", "_law_top"] vs) H) : FnG g (j + 2) (gad g.K "_law_pays") sp := by
  obtain ⟨fd, F⟩ := fd__law_pays T
  exact fnG_of (ok__law_pays T F h) (FunD.bindsN F fun _ _ _ _ _ _ us hl => match us, hl with | [_, _, _], _ => rfl)
theorem sc__law_reaches : FnScope ["_law_pays_here", "_law_most", "_law_found", "_law_sums", "_law_pay", "_law_turn", "_law_k"] ["_law_pays_here", "_law_most"] (defScope (top 53)) := ⟨rfl, rfl, rfl, by decide +kernel, rfl, by decide +kernel, by decide +kernel⟩
def rd__law_reaches (g : Wd) (j : Nat) (E : XK) : TS :=
  tSeq (tAsg (tLst (tCons (tC (.int 0)) (tNil))) (gName 2))
  (tSeq (tAsg (tLc (iSeq g.K (cV 0)) (gName 4) (tYes) (tC (.int 0)) [4]) (gName 3))
  (tSeq (tFor (iRng1 (tCons (tOp cMul (cV 1) (tCB (cLen g j) (tCons (cV 0) (tNil)))) (tNil))) (gName 5) (tSeq (tAsg (tLc (iRng1 (tCons (tCB (cLen g j) (tCons (cV 0) (tNil))) (tNil))) (gName 6) (tYes) (tOp (cAdd g.K noOw) (tOp (cIx g.K) (cV 3) (cV 6)) (tOp (cIx g.K) (cV 0) (tOp cMod (tCB (cInt) (tCons (tOp (cAdd g.K noOw) (cV 6) (cV 5)) (tNil))) (tCB (cLen g j) (tCons (cV 0) (tNil)))))) [6]) (gName 3))
  (tIfS (cTest (tOp cLe (tCB (cLen g j) (tCons (cV 2) (tNil))) (cV 1))) (tAsg (tOp (cAdd g.K noOw) (cV 2) (tOp cMul (tLst (tCons (tOp (cAdd g.K noOw) (cV 5) (tC (.int 1))) (tNil))) (tOp cSub (tOp (cAdd g.K noOw) (tCB (cMin g.K) (tCons (tCB (cMin g.K) (tCons (cV 3) (tNil))) (tCons (cV 1) (tNil)))) (tC (.int 1))) (tCB (cLen g j) (tCons (cV 2) (tNil)))))) (gName 2)) (tNext))))
  (tRet (cV 2))))
theorem dv__law_reaches {g : Wd} (T : Top g) {j : Nat} {f : Addr} {cdv : Value} {A : Around} {outer : List Env} {s : Shared} {H : Hp} {E : XK} (hr : Room (j + 1) (A.deeper (envOfC "_law_reaches" (defScope (top 53)) s.heap.objs.size f cdv))) :
    PSs (cxOf (L2.CX g.P g.w) g.P g.w g.K g.mg g.base ["_law_pays_here", "_law_most", "_law_found", "_law_sums", "_law_pay", "_law_turn", "_law_k"] "_law_reaches" (defScope (top 53)) f cdv A outer s H E) (defBody (top 53)) (rd__law_reaches g j E) := by
  unfold rd__law_reaches
  exact (pss_cons (ps_set (i := 2) sc__law_reaches.nd rfl (Or.inl rfl) (pe_lst (pa_cons pe_int pa_nil)))
  (pss_cons (ps_set (i := 3) sc__law_reaches.nd rfl (Or.inr rfl) (pe_lc rfl sc__law_reaches.nd (pi_seq (cv 0)) (blkOk_by (own := [("_law_pay", 4)]) (by change blkC ["_law_pays_here", "_law_most", "_law_found", "_law_sums", "_law_pay", "_law_turn", "_law_k"] (defScope (top 53)) _ _ = true; decide +kernel)) (fun s H C cl fp => (pg_name sc__law_reaches.nd rfl (Or.inl rfl))) (fun s H C cl fp => pts_nil) (fun s H C cl fp => pe_int)))
  (pss_cons (ps_for (passes_of rfl) rfl (pi_range1 (by rfl) (bl_range T) (pa_cons (pe_op op_cMul (cv 1) (pe_callB (call_cLen hr) (by rfl) (bl_len T) bt_len (pa_cons (cv 0) pa_nil))) pa_nil)) (pg_name sc__law_reaches.nd rfl (Or.inr rfl)) (pss_cons (ps_set (i := 3) sc__law_reaches.nd rfl (Or.inr rfl) (pe_lc rfl sc__law_reaches.nd (pi_range1 (by rfl) (bl_range T) (pa_cons (pe_callB (call_cLen hr) (by rfl) (bl_len T) bt_len (pa_cons (cv 0) pa_nil)) pa_nil)) (blkOk_by (own := [("_law_k", 6)]) (by change blkC ["_law_pays_here", "_law_most", "_law_found", "_law_sums", "_law_pay", "_law_turn", "_law_k"] (defScope (top 53)) _ _ = true; decide +kernel)) (fun s H C cl fp => (pg_name sc__law_reaches.nd rfl (Or.inl rfl))) (fun s H C cl fp => pts_nil) (fun s H C cl fp => (pe_op (op_cAdd noOw_ok) (pe_ix ix_c (cv 3) (cv 6) (fun _ _ => rfl)) (pe_ix ix_c (cv 0) (pe_op op_cMod (pe_callTy (call_cInt) (by rfl) (bl_int T) bt_int (pa_cons (pe_op (op_cAdd noOw_ok) (cv 6) (cv 5)) pa_nil)) (pe_callB (call_cLen hr) (by rfl) (bl_len T) bt_len (pa_cons (cv 0) pa_nil))) (fun _ _ => rfl))))))
  (pss_one (ps_if (ptc op_cLe (pe_callB (call_cLen hr) (by rfl) (bl_len T) bt_len (pa_cons (cv 2) pa_nil)) (cv 1) (nomark _)) (pss_one (ps_set (i := 2) sc__law_reaches.nd rfl (Or.inl rfl) (pe_op (op_cAdd noOw_ok) (cv 2) (pe_op op_cMul (pe_lst (pa_cons (pe_op (op_cAdd noOw_ok) (cv 5) pe_int) pa_nil)) (pe_op op_cSub (pe_op (op_cAdd noOw_ok) (pe_callB (call_cMin rfl) (by rfl) (bl_min T) bt_min (pa_cons (pe_callB (call_cMin rfl) (by rfl) (bl_min T) bt_min (pa_cons (cv 3) pa_nil)) (pa_cons (cv 1) pa_nil))) pe_int) (pe_callB (call_cLen hr) (by rfl) (bl_len T) bt_len (pa_cons (cv 2) pa_nil))))))) pss_nil))))
  (pss_one (ps_ret (cv 2))))))
theorem ok__law_reaches {g : Wd} (T : Top g) {fd : FuncData} (F : FunD g.K "_law_reaches" "_law_reaches" (defArgs (top 53)) (defBody (top 53)) (defScope (top 53)) [] [] (gad g.K "_law_reaches") fd) {j : Nat} {sp : Sp} (h : ∀ vs H Q E, sp vs H Q E → vs.length = 2 ∧ rd__law_reaches g j E { nx := fun _ H1 => Q .non H1, rt := Q } (L2.start ["_law_pays_here", "_law_most", "_law_found", "_law_sums", "_law_pay", "_law_turn", "_law_k"] vs) H) : FnOk g.P g.w g.K g.mg g.base (L2.CX g.P g.w) (j + 2) (gad g.K "_law_reaches") fd ["_law_pays_here", "_law_most"] sp :=
  FunD.ok F sc__law_reaches (fun vs H Q E hh => (h vs H Q E hh).1) fun cdv A outer s H vs Q E hr hh => ⟨rd__law_reaches g j E, dv__law_reaches T hr, (h vs H Q E hh).2⟩
theorem fk__law_reaches {g : Wd} (T : Top g) (j : Nat) {sp : Sp} (h : ∀ vs H Q E, sp vs H Q E → vs.length = 2 ∧ rd__law_reaches g j E { nx := fun _ H1 => Q .non H1, rt := Q } (L2.start ["_law_pays_here", "_law_most", "_law_found", "_law_sums", "_law_pay", "_law_turn", "_law_k"] vs) H) : FnG g (j + 2) (gad g.K "_law_reaches") sp := by
  obtain ⟨fd, F⟩ := fd__law_reaches T
  exact fnG_of (ok__law_reaches T F h) (FunD.bindsN F fun _ _ _ _ _ _ us hl => match us, hl with | [_, _], _ => rfl)
theorem sc__law_need : FnScope ["_law_pays_here", "_law_many"] ["_law_pays_here", "_law_many"] (defScope (top 54)) := ⟨rfl, rfl, rfl, by decide +kernel, rfl, by decide +kernel, by decide +kernel⟩
def rd__law_need (g : Wd) (j : Nat) (E : XK) : TS :=
  tSeq (tIfS (cTest (tOp (cEqN g.K false) (cV 1) (tC (.int 1)))) (tRet (tC (.int 0))) (tNext))
  (tSeq (tIfS (cTest (tOp (cEqN g.K false) (tCB (cSum g.K) (tCons (cV 0) (tNil))) (tC (.int 0)))) (tRet (tC .non)) (tNext))
  (tRet (tOp (cIx g.K) (cCall g j (fun cls d _ H => E cls d H) (gad g.K "_law_reaches") (tCons (cV 0) (tCons (tOp cSub (cV 1) (tC (.int 1))) (tNil)))) (tOp cSub (cV 1) (tC (.int 1))))))
theorem dv__law_need {g : Wd} (T : Top g) {j : Nat} {f : Addr} {cdv : Value} {A : Around} {outer : List Env} {s : Shared} {H : Hp} {E : XK} (hr : Room (j + 1) (A.deeper (envOfC "_law_need" (defScope (top 54)) s.heap.objs.size f cdv))) :
    PSs (cxOf (L2.CX g.P g.w) g.P g.w g.K g.mg g.base ["_law_pays_here", "_law_many"] "_law_need" (defScope (top 54)) f cdv A outer s H E) (defBody (top 54)) (rd__law_need g j E) := by
  unfold rd__law_need
  exact (pss_cons (ps_if (ptc (op_cEq hr.units) (cv 1) pe_int (nomark _)) (pss_one (ps_ret pe_int)) pss_nil)
  (pss_cons (ps_if (ptc (op_cEq hr.units) (pe_callB (call_cSum rfl) (by rfl) (bl_sum T) bt_sum (pa_cons (cv 0) pa_nil)) pe_int (nomark _)) (pss_one (ps_ret pe_non)) pss_nil)
  (pss_one (ps_ret (pe_ix ix_c (pe_cCall (takes_of rfl rfl rfl rfl) (hr.mono (Nat.le_succ _)) (gf__law_reaches T) (by rfl) (pa_cons (cv 0) (pa_cons (pe_op op_cSub (cv 1) pe_int) pa_nil))) (pe_op op_cSub (cv 1) pe_int) (fun _ _ => rfl))))))
theorem ok__law_need {g : Wd} (T : Top g) {fd : FuncData} (F : FunD g.K "_law_need" "_law_need" (defArgs (top 54)) (defBody (top 54)) (defScope (top 54)) [] [] (gad g.K "_law_need") fd) {j : Nat} {sp : Sp} (h : ∀ vs H Q E, sp vs H Q E → vs.length = 2 ∧ rd__law_need g j E { nx := fun _ H1 => Q .non H1, rt := Q } (L2.start ["_law_pays_here", "_law_many"] vs) H) : FnOk g.P g.w g.K g.mg g.base (L2.CX g.P g.w) (j + 2) (gad g.K "_law_need") fd ["_law_pays_here", "_law_many"] sp :=
  FunD.ok F sc__law_need (fun vs H Q E hh => (h vs H Q E hh).1) fun cdv A outer s H vs Q E hr hh => ⟨rd__law_need g j E, dv__law_need T hr, (h vs H Q E hh).2⟩
theorem fk__law_need {g : Wd} (T : Top g) (j : Nat) {sp : Sp} (h : ∀ vs H Q E, sp vs H Q E → vs.length = 2 ∧ rd__law_need g j E { nx := fun _ H1 => Q .non H1, rt := Q } (L2.start ["_law_pays_here", "_law_many"] vs) H) : FnG g (j + 2) (gad g.K "_law_need") sp := by
  obtain ⟨fd, F⟩ := fd__law_need T
  exact fnG_of (ok__law_need T F h) (FunD.bindsN F fun _ _ _ _ _ _ us hl => match us, hl with | [_, _], _ => rfl)
theorem sc__law_goes : FnScope ["_law_pays_here", "_law_many", "_law_wide", "_law_need_here"] ["_law_pays_here", "_law_many", "_law_wide"] (defScope (top 55)) := ⟨rfl, rfl, rfl, by decide +kernel, rfl, by decide +kernel, by decide +kernel⟩
def rd__law_goes (g : Wd) (j : Nat) (E : XK) : TS :=
  tSeq (tAsg (cCall g j (fun cls d _ H => E cls d H) (gad g.K "_law_need") (tCons (cV 0) (tCons (cV 1) (tNil)))) (gName 3))
  (tRet (cAndV (tOp (cIsN true) (cV 3) (tC .non)) (tOp cLe (cV 3) (tOp cSub (cV 2) (cV 1)))))
theorem dv__law_goes {g : Wd} (T : Top g) {j : Nat} {f : Addr} {cdv : Value} {A : Around} {outer : List Env} {s : Shared} {H : Hp} {E : XK} (hr : Room (j + 1) (A.deeper (envOfC "_law_goes" (defScope (top 55)) s.heap.objs.size f cdv))) :
    PSs (cxOf (L2.CX g.P g.w) g.P g.w g.K g.mg g.base ["_law_pays_here", "_law_many", "_law_wide", "_law_need_here"] "_law_goes" (defScope (top 55)) f cdv A outer s H E) (defBody (top 55)) (rd__law_goes g j E) := by
  unfold rd__law_goes
  exact (pss_cons (ps_set (i := 3) sc__law_goes.nd rfl (Or.inl rfl) (pe_cCall (takes_of rfl rfl rfl rfl) (hr.mono (Nat.le_succ _)) (gf__law_need T) (by rfl) (pa_cons (cv 0) (pa_cons (cv 1) pa_nil))))
  (pss_one (ps_ret (pe_cAnd (pe_cmpR op_cIsNot (cv 3) pe_non (nomark _)) (pe_one (pe_cmpR op_cLe (cv 3) (pe_op op_cSub (cv 2) (cv 1)) (nomark _)))))))
theorem ok__law_goes {g : Wd} (T : Top g) {fd : FuncData} (F : FunD g.K "_law_goes" "_law_goes" (defArgs (top 55)) (defBody (top 55)) (defScope (top 55)) [] [] (gad g.K "_law_goes") fd) {j : Nat} {sp : Sp} (h : ∀ vs H Q E, sp vs H Q E → vs.length = 3 ∧ rd__law_goes g j E { nx := fun _ H1 => Q .non H1, rt := Q } (L2.start ["_law_pays_here", "_law_many", "_law_wide", "_law_need_here"] vs) H) : FnOk g.P g.w g.K g.mg g.base (L2.CX g.P g.w) (j + 2) (gad g.K "_law_goes") fd ["_law_pays_here", "_law_many", "_law_wide"] sp :=
  FunD.ok F sc__law_goes (fun vs H Q E hh => (h vs H Q E hh).1) fun cdv A outer s H vs Q E hr hh => ⟨rd__law_goes g j E, dv__law_goes T hr, (h vs H Q E hh).2⟩
theorem fk__law_goes {g : Wd} (T : Top g) (j : Nat) {sp : Sp} (h : ∀ vs H Q E, sp vs H Q E → vs.length = 3 ∧ rd__law_goes g j E { nx := fun _ H1 => Q .non H1, rt := Q } (L2.start ["_law_pays_here", "_law_many", "_law_wide", "_law_need_here"] vs) H) : FnG g (j + 2) (gad g.K "_law_goes") sp := by
  obtain ⟨fd, F⟩ := fd__law_goes T
  exact fnG_of (ok__law_goes T F h) (FunD.bindsN F fun _ _ _ _ _ _ us hl => match us, hl with | [_, _, _], _ => rfl)
theorem sc__law_raised : FnScope ["_law_pays_here", "_law_many", "_law_wide", "_law_turn", "_law_k"] ["_law_pays_here", "_law_many", "_law_wide"] (defScope (top 56)) := ⟨rfl, rfl, rfl, by decide +kernel, rfl, by decide +kernel, by decide +kernel⟩
def rd__law_raised (g : Wd) (j : Nat) (E : XK) : TS :=
  tSeq (tFor (iRng1 (tCons (tOp cMul (cV 1) (tCB (cLen g j) (tCons (cV 0) (tNil)))) (tNil))) (gName 3) (tIfS (tAnd (cTest (tOp cLt (cV 1) (cV 2))) (tNot (cTru g.K (cCall g j (fun cls d _ H => E cls d H) (gad g.K "_law_goes") (tCons (cV 0) (tCons (cV 1) (tCons (cV 2) (tNil)))))))) (tSeq (tAsg (tOp cMod (tCB (cInt) (tCons (cV 3) (tNil))) (tCB (cLen g j) (tCons (cV 0) (tNil)))) (gName 4))
  (tAsg (tOp (cAdd g.K noOw) (tOp (cAdd g.K noOw) (tSl (cSl g.K) (cV 0) (tNoPart) (cPart (cV 4))) (tLst (tCons (tOp (cAdd g.K noOw) (tOp (cIx g.K) (cV 0) (cV 4)) (tC (.int 1))) (tNil)))) (tSl (cSl g.K) (cV 0) (cPart (tOp (cAdd g.K noOw) (cV 4) (tC (.int 1)))) (tNoPart))) (gName 0))) (tNext)))
  (tRet (cV 0))
theorem dv__law_raised {g : Wd} (T : Top g) {j : Nat} {f : Addr} {cdv : Value} {A : Around} {outer : List Env} {s : Shared} {H : Hp} {E : XK} (hr : Room (j + 1) (A.deeper (envOfC "_law_raised" (defScope (top 56)) s.heap.objs.size f cdv))) :
    PSs (cxOf (L2.CX g.P g.w) g.P g.w g.K g.mg g.base ["_law_pays_here", "_law_many", "_law_wide", "_law_turn", "_law_k"] "_law_raised" (defScope (top 56)) f cdv A outer s H E) (defBody (top 56)) (rd__law_raised g j E) := by
  unfold rd__law_raised
  exact (pss_cons (ps_for (passes_of rfl) rfl (pi_range1 (by rfl) (bl_range T) (pa_cons (pe_op op_cMul (cv 1) (pe_callB (call_cLen hr) (by rfl) (bl_len T) bt_len (pa_cons (cv 0) pa_nil))) pa_nil)) (pg_name sc__law_raised.nd rfl (Or.inl rfl)) (pss_one (ps_if (pw_and (ptc op_cLt (cv 1) (cv 2) (nomark _)) (pw_and1 (pt_not (ptv (pe_cCall (takes_of rfl rfl rfl rfl) (hr.mono (Nat.le_succ _)) (gf__law_goes T) (by rfl) (pa_cons (cv 0) (pa_cons (cv 1) (pa_cons (cv 2) pa_nil)))))))).pt (pss_cons (ps_set (i := 4) sc__law_raised.nd rfl (Or.inl rfl) (pe_op op_cMod (pe_callTy (call_cInt) (by rfl) (bl_int T) bt_int (pa_cons (cv 3) pa_nil)) (pe_callB (call_cLen hr) (by rfl) (bl_len T) bt_len (pa_cons (cv 0) pa_nil))))
  (pss_one (ps_set (i := 0) sc__law_raised.nd rfl (Or.inl rfl) (pe_op (op_cAdd noOw_ok) (pe_op (op_cAdd noOw_ok) (pe_slice sl_c (cv 0) po_none (po_c (cv 4))) (pe_lst (pa_cons (pe_op (op_cAdd noOw_ok) (pe_ix ix_c (cv 0) (cv 4) (fun _ _ => rfl)) pe_int) pa_nil))) (pe_slice sl_c (cv 0) (po_c (pe_op (op_cAdd noOw_ok) (cv 4) pe_int)) po_none))))) pss_nil)))
  (pss_one (ps_ret (cv 0))))
theorem ok__law_raised {g : Wd} (T : Top g) {fd : FuncData} (F : FunD g.K "_law_raised" "_law_raised" (defArgs (top 56)) (defBody (top 56)) (defScope (top 56)) [] [] (gad g.K "_law_raised") fd) {j : Nat} {sp : Sp} (h : ∀ vs H Q E, sp vs H Q E → vs.length = 3 ∧ rd__law_raised g j E { nx := fun _ H1 => Q .non H1, rt := Q } (L2.start ["_law_pays_here", "_law_many", "_law_wide", "_law_turn", "_law_k"] vs) H) : FnOk g.P g.w g.K g.mg g.base (L2.CX g.P g.w) (j + 2) (gad g.K "_law_raised") fd ["_law_pays_here", "_law_many", "_law_wide"] sp :=
  FunD.ok F sc__law_raised (fun vs H Q E hh => (h vs H Q E hh).1) fun cdv A outer s H vs Q E hr hh => ⟨rd__law_raised g j E, dv__law_raised T hr, (h vs H Q E hh).2⟩
theorem fk__law_raised {g : Wd} (T : Top g) (j : Nat) {sp : Sp} (h : ∀ vs H Q E, sp vs H Q E → vs.length = 3 ∧ rd__law_raised g j E { nx := fun _ H1 => Q .non H1, rt := Q } (L2.start ["_law_pays_here", "_law_many", "_law_wide", "_law_turn", "_law_k"] vs) H) : FnG g (j + 2) (gad g.K "_law_raised") sp := by
  obtain ⟨fd, F⟩ := fd__law_raised T
  exact fnG_of (ok__law_raised T F h) (FunD.bindsN F fun _ _ _ _ _ _ us hl => match us, hl with | [_, _, _], _ => rfl)
theorem sc__law_levels : FnScope ["_law_script", "_law_box_here", "_law_need_here", "_law_wide", "_law_level"] ["_law_script", "_law_box_here", "_law_need_here", "_law_wide"] (defScope (top 57)) := ⟨rfl, rfl, rfl, by decide +kernel, rfl, by decide +kernel, by decide +kernel⟩
def rd__law_levels (g : Wd) (j : Nat) (E : XK) : TS :=
  tSeq (tIfS (cTest (tOp (cIsN false) (cV 2) (tC .non))) (tRet (tLst (tCons (cCall g j (fun cls d _ H => E cls d H) (gad g.K "_law_take") (tCons (cV 0) (tCons (cV 1) (tCons (tOp (cAdd g.K noOw) (cV 3) (tC (.int 2))) (tNil))))) (tCons (tOp (cAdd g.K noOw) (cV 3) (tC (.int 1))) (tCons (tC (.int 0)) (tNil)))))) (tNext))
  (tSeq (tAsg (tCB (cMax g.K) (tCons (tC (.int 0)) (tCons (tOp cSub (tOp (cAdd g.K noOw) (cV 2) (cCall g j (fun cls d _ H => E cls d H) (gad g.K "_law_take") (tCons (cV 0) (tCons (cV 1) (tCons (tC (.int 5)) (tNil)))))) (tC (.int 2))) (tNil)))) (gName 4))
  (tRet (tLst (tCons (cV 4) (tCons (cV 2) (tCons (tCB (cMax g.K) (tCons (tC (.int 0)) (tCons (tOp cSub (cV 2) (tC (.int 1))) (tNil)))) (tCons (cV 4) (tNil))))))))
theorem dv__law_levels {g : Wd} (T : Top g) {j : Nat} {f : Addr} {cdv : Value} {A : Around} {outer : List Env} {s : Shared} {H : Hp} {E : XK} (hr : Room (j + 1) (A.deeper (envOfC "_law_levels" (defScope (top 57)) s.heap.objs.size f cdv))) :
    PSs (cxOf (L2.CX g.P g.w) g.P g.w g.K g.mg g.base ["_law_script", "_law_box_here", "_law_need_here", "_law_wide", "_law_level"] "_law_levels" (defScope (top 57)) f cdv A outer s H E) (defBody (top 57)) (rd__law_levels g j E) := by
  unfold rd__law_levels
  exact (pss_cons (ps_if (ptc op_cIs (cv 2) pe_non (nomark _)) (pss_one (ps_ret (pe_lst (pa_cons (pe_cCall (takes_of rfl rfl rfl rfl) (hr.mono (Nat.le_succ _)) (gf__law_take T) (by rfl) (pa_cons (cv 0) (pa_cons (cv 1) (pa_cons (pe_op (op_cAdd noOw_ok) (cv 3) pe_int) pa_nil)))) (pa_cons (pe_op (op_cAdd noOw_ok) (cv 3) pe_int) (pa_cons pe_int pa_nil)))))) pss_nil)
  (pss_cons (ps_set (i := 4) sc__law_levels.nd rfl (Or.inl rfl) (pe_callB (call_cMax rfl) (by rfl) (bl_max T) bt_max (pa_cons pe_int (pa_cons (pe_op op_cSub (pe_op (op_cAdd noOw_ok) (cv 2) (pe_cCall (takes_of rfl rfl rfl rfl) (hr.mono (Nat.le_succ _)) (gf__law_take T) (by rfl) (pa_cons (cv 0) (pa_cons (cv 1) (pa_cons pe_int pa_nil))))) pe_int) pa_nil))))
  (pss_one (ps_ret (pe_lst (pa_cons (cv 4) (pa_cons (cv 2) (pa_cons (pe_callB (call_cMax rfl) (by rfl) (bl_max T) bt_max (pa_cons pe_int (pa_cons (pe_op op_cSub (cv 2) pe_int) pa_nil))) (pa_cons (cv 4) pa_nil)))))))))
theorem ok__law_levels {g : Wd} (T : Top g) {fd : FuncData} (F : FunD g.K "_law_levels" "_law_levels" (defArgs (top 57)) (defBody (top 57)) (defScope (top 57)) [] [] (gad g.K "_law_levels") fd) {j : Nat} {sp : Sp} (h : ∀ vs H Q E, sp vs H Q E → vs.length = 4 ∧ rd__law_levels g j E { nx := fun _ H1 => Q .non H1, rt := Q } (L2.start ["_law_script", "_law_box_here", "_law_need_here", "_law_wide", "_law_level"] vs) H) : FnOk g.P g.w g.K g.mg g.base (L2.CX g.P g.w) (j + 2) (gad g.K "_law_levels") fd ["_law_script", "_law_box_here", "_law_need_here", "_law_wide"] sp :=
  FunD.ok F sc__law_levels (fun vs H Q E hh => (h vs H Q E hh).1) fun cdv A outer s H vs Q E hr hh => ⟨rd__law_levels g j E, dv__law_levels T hr, (h vs H Q E hh).2⟩
theorem fk__law_levels {g : Wd} (T : Top g) (j : Nat) {sp : Sp} (h : ∀ vs H Q E, sp vs H Q E → vs.length = 4 ∧ rd__law_levels g j E { nx := fun _ H1 => Q .non H1, rt := Q } (L2.start ["_law_script", "_law_box_here", "_law_need_here", "_law_wide", "_law_level"] vs) H) : FnG g (j + 2) (gad g.K "_law_levels") sp := by
  obtain ⟨fd, F⟩ := fd__law_levels T
  exact fnG_of (ok__law_levels T F h) (FunD.bindsN F fun _ _ _ _ _ _ us hl => match us, hl with | [_, _, _, _], _ => rfl)
theorem sc__law_edge : FnScope ["_law_made", "_law_pays_here", "_law_many", "_law_wide", "_law_need_here", "_law_told"] ["_law_made", "_law_pays_here", "_law_many", "_law_wide"] (defScope (top 58)) := ⟨rfl, rfl, rfl, by decide +kernel, rfl, by decide +kernel, by decide +kernel⟩
def rd__law_edge (g : Wd) (j : Nat) (E : XK) : TS :=
  tSeq (tAsg (cCall g j (fun cls d _ H => E cls d H) (gad g.K "_law_need") (tCons (cV 1) (tCons (cV 2) (tNil)))) (gName 4))
  (tSeq (tAsg (cCall g j (fun cls d _ H => E cls d H) (gad g.K "least_free") (tCons (cV 2) (tCons (cV 0) (tNil)))) (gName 5))
  (tSeq (tIfS (tAnd (cTest (tOp (cIsN false) (cV 4) (tC .non))) (cTest (tOp (cIsN true) (cV 5) (tC .non)))) (tRet (tC (.bl false))) (tNext))
  (tSeq (tIfS (tAnd (cTest (tOp (cIsN true) (cV 4) (tC .non))) (tOr (tNot (cTru g.K (cCall g j (fun cls d _ H => E cls d H) (gad g.K "_law_is_count") (tCons (cV 5) (tNil))))) (cTest (tOp (cEqN g.K true) (cV 5) (cV 4))))) (tRet (tC (.bl false))) (tNext))
  (tRet (tOp (cEqN g.K false) (cCall g j (fun cls d _ H => E cls d H) (gad g.K "ring_goes_on") (tCons (cV 3) (tCons (cV 2) (tCons (cV 0) (tNil))))) (cCall g j (fun cls d _ H => E cls d H) (gad g.K "_law_goes") (tCons (cV 1) (tCons (cV 2) (tCons (cV 3) (tNil))))))))))
theorem dv__law_edge {g : Wd} (T : Top g) {j : Nat} {f : Addr} {cdv : Value} {A : Around} {outer : List Env} {s : Shared} {H : Hp} {E : XK} (hr : Room (j + 1) (A.deeper (envOfC "_law_edge" (defScope (top 58)) s.heap.objs.size f cdv))) :
    PSs (cxOf (L2.CX g.P g.w) g.P g.w g.K g.mg g.base ["_law_made", "_law_pays_here", "_law_many", "_law_wide", "_law_need_here", "_law_told"] "_law_edge" (defScope (top 58)) f cdv A outer s H E) (defBody (top 58)) (rd__law_edge g j E) := by
  unfold rd__law_edge
  exact (pss_cons (ps_set (i := 4) sc__law_edge.nd rfl (Or.inl rfl) (pe_cCall (takes_of rfl rfl rfl rfl) (hr.mono (Nat.le_succ _)) (gf__law_need T) (by rfl) (pa_cons (cv 1) (pa_cons (cv 2) pa_nil))))
  (pss_cons (ps_set (i := 5) sc__law_edge.nd rfl (Or.inl rfl) (pe_cCall (takes_of rfl rfl rfl rfl) (hr.mono (Nat.le_succ _)) (gf_least_free T) (by rfl) (pa_cons (cv 2) (pa_cons (cv 0) pa_nil))))
  (pss_cons (ps_if (pw_and (ptc op_cIs (cv 4) pe_non (nomark _)) (pw_and1 (ptc op_cIsNot (cv 5) pe_non (nomark _)))).pt (pss_one (ps_ret pe_bl)) pss_nil)
  (pss_cons (ps_if (pw_and (ptc op_cIsNot (cv 4) pe_non (nomark _)) (pw_and1 (pw_or (pt_not (ptv (pe_cCall (takes_of rfl rfl rfl rfl) (hr.mono (Nat.le_succ _)) (gf__law_is_count T) (by rfl) (pa_cons (cv 5) pa_nil)))) (pw_or1 (ptc (op_cNe hr.units) (cv 5) (cv 4) (nomark _)))).pt)).pt (pss_one (ps_ret pe_bl)) pss_nil)
  (pss_one (ps_ret (pe_cmpR (op_cEq hr.units) (pe_cCall (takes_of rfl rfl rfl rfl) (hr.mono (Nat.le_succ _)) (gf_ring_goes_on T) (by rfl) (pa_cons (cv 3) (pa_cons (cv 2) (pa_cons (cv 0) pa_nil)))) (pe_cCall (takes_of rfl rfl rfl rfl) (hr.mono (Nat.le_succ _)) (gf__law_goes T) (by rfl) (pa_cons (cv 1) (pa_cons (cv 2) (pa_cons (cv 3) pa_nil)))) (nomark _))))))))
theorem ok__law_edge {g : Wd} (T : Top g) {fd : FuncData} (F : FunD g.K "_law_edge" "_law_edge" (defArgs (top 58)) (defBody (top 58)) (defScope (top 58)) [] [] (gad g.K "_law_edge") fd) {j : Nat} {sp : Sp} (h : ∀ vs H Q E, sp vs H Q E → vs.length = 4 ∧ rd__law_edge g j E { nx := fun _ H1 => Q .non H1, rt := Q } (L2.start ["_law_made", "_law_pays_here", "_law_many", "_law_wide", "_law_need_here", "_law_told"] vs) H) : FnOk g.P g.w g.K g.mg g.base (L2.CX g.P g.w) (j + 2) (gad g.K "_law_edge") fd ["_law_made", "_law_pays_here", "_law_many", "_law_wide"] sp :=
  FunD.ok F sc__law_edge (fun vs H Q E hh => (h vs H Q E hh).1) fun cdv A outer s H vs Q E hr hh => ⟨rd__law_edge g j E, dv__law_edge T hr, (h vs H Q E hh).2⟩
theorem fk__law_edge {g : Wd} (T : Top g) (j : Nat) {sp : Sp} (h : ∀ vs H Q E, sp vs H Q E → vs.length = 4 ∧ rd__law_edge g j E { nx := fun _ H1 => Q .non H1, rt := Q } (L2.start ["_law_made", "_law_pays_here", "_law_many", "_law_wide", "_law_need_here", "_law_told"] vs) H) : FnG g (j + 2) (gad g.K "_law_edge") sp := by
  obtain ⟨fd, F⟩ := fd__law_edge T
  exact fnG_of (ok__law_edge T F h) (FunD.bindsN F fun _ _ _ _ _ _ us hl => match us, hl with | [_, _, _, _], _ => rfl)
theorem sc__law_judged : FnScope ["_law_told", "_law_forever", "_law_level", "_law_terms", "_law_pays_here"] ["_law_told", "_law_forever", "_law_level", "_law_terms", "_law_pays_here"] (defScope (top 59)) := ⟨rfl, rfl, rfl, by decide +kernel, rfl, by decide +kernel, by decide +kernel⟩
def rd__law_judged (g : Wd) (j : Nat) (E : XK) : TS :=
  tSeq (tIfS (cTru g.K (cV 1)) (tRet (tOp (cIsN false) (cV 0) (tC .non))) (tNext))
  (tSeq (tIfS (tOr (tNot (cTru g.K (cCall g j (fun cls d _ H => E cls d H) (gad g.K "_law_is_row") (tCons (cV 0) (tCons (tOp (cIx g.K) (cV 3) (tC (.int 1))) (tNil)))))) (cTest (tOp (cEqN g.K false) (tCB (cLen g j) (tCons (cV 0) (tNil))) (tC (.int 0))))) (tRet (tC (.bl false))) (tNext))
  (tRet (tOp (cEqN g.K false) (tCB (cLen g j) (tCons (cCall g j (fun cls d _ H => E cls d H) (gad g.K "_law_play") (tCons (cV 2) (tCons (cV 0) (tCons (tOp (cIx g.K) (cV 3) (tC (.int 0))) (tCons (tOp (cIx g.K) (cV 3) (tC (.int 1))) (tCons (cV 4) (tNil))))))) (tNil))) (tOp cSub (tCB (cLen g j) (tCons (cV 0) (tNil))) (tC (.int 1))))))
theorem dv__law_judged {g : Wd} (T : Top g) {j : Nat} {f : Addr} {cdv : Value} {A : Around} {outer : List Env} {s : Shared} {H : Hp} {E : XK} (hr : Room (j + 1) (A.deeper (envOfC "_law_judged" (defScope (top 59)) s.heap.objs.size f cdv))) :
    PSs (cxOf (L2.CX g.P g.w) g.P g.w g.K g.mg g.base ["_law_told", "_law_forever", "_law_level", "_law_terms", "_law_pays_here"] "_law_judged" (defScope (top 59)) f cdv A outer s H E) (defBody (top 59)) (rd__law_judged g j E) := by
  unfold rd__law_judged
  exact (pss_cons (ps_if (ptv (cv 1)) (pss_one (ps_ret (pe_cmpR op_cIs (cv 0) pe_non (nomark _)))) pss_nil)
  (pss_cons (ps_if (pw_or (pt_not (ptv (pe_cCall (takes_of rfl rfl rfl rfl) (hr.mono (Nat.le_succ _)) (gf__law_is_row T) (by rfl) (pa_cons (cv 0) (pa_cons (pe_ix ix_c (cv 3) pe_int (fun _ _ => rfl)) pa_nil))))) (pw_or1 (ptc (op_cEq hr.units) (pe_callB (call_cLen hr) (by rfl) (bl_len T) bt_len (pa_cons (cv 0) pa_nil)) pe_int (nomark _)))).pt (pss_one (ps_ret pe_bl)) pss_nil)
  (pss_one (ps_ret (pe_cmpR (op_cEq hr.units) (pe_callB (call_cLen hr) (by rfl) (bl_len T) bt_len (pa_cons (pe_cCall (takes_of rfl rfl rfl rfl) (hr.mono (Nat.le_succ _)) (gf__law_play T) (by rfl) (pa_cons (cv 2) (pa_cons (cv 0) (pa_cons (pe_ix ix_c (cv 3) pe_int (fun _ _ => rfl)) (pa_cons (pe_ix ix_c (cv 3) pe_int (fun _ _ => rfl)) (pa_cons (cv 4) pa_nil)))))) pa_nil)) (pe_op op_cSub (pe_callB (call_cLen hr) (by rfl) (bl_len T) bt_len (pa_cons (cv 0) pa_nil)) pe_int) (nomark _))))))
theorem ok__law_judged {g : Wd} (T : Top g) {fd : FuncData} (F : FunD g.K "_law_judged" "_law_judged" (defArgs (top 59)) (defBody (top 59)) (defScope (top 59)) [] [] (gad g.K "_law_judged") fd) {j : Nat} {sp : Sp} (h : ∀ vs H Q E, sp vs H Q E → vs.length = 5 ∧ rd__law_judged g j E { nx := fun _ H1 => Q .non H1, rt := Q } (L2.start ["_law_told", "_law_forever", "_law_level", "_law_terms", "_law_pays_here"] vs) H) : FnOk g.P g.w g.K g.mg g.base (L2.CX g.P g.w) (j + 2) (gad g.K "_law_judged") fd ["_law_told", "_law_forever", "_law_level", "_law_terms", "_law_pays_here"] sp :=
  FunD.ok F sc__law_judged (fun vs H Q E hh => (h vs H Q E hh).1) fun cdv A outer s H vs Q E hr hh => ⟨rd__law_judged g j E, dv__law_judged T hr, (h vs H Q E hh).2⟩
theorem fk__law_judged {g : Wd} (T : Top g) (j : Nat) {sp : Sp} (h : ∀ vs H Q E, sp vs H Q E → vs.length = 5 ∧ rd__law_judged g j E { nx := fun _ H1 => Q .non H1, rt := Q } (L2.start ["_law_told", "_law_forever", "_law_level", "_law_terms", "_law_pays_here"] vs) H) : FnG g (j + 2) (gad g.K "_law_judged") sp := by
  obtain ⟨fd, F⟩ := fd__law_judged T
  exact fnG_of (ok__law_judged T F h) (FunD.bindsN F fun _ _ _ _ _ _ us hl => match us, hl with | [_, _, _, _, _], _ => rfl)
theorem sc__law_small : FnScope ["_law_script", "_law_box_here", "_law_wide", "_law_many", "_law_pays_here", "_law_made", "_law_need_here", "_law_levels_here", "_law_keeper", "_law_level", "_law_forever"] ["_law_script", "_law_box_here"] (defScope (top 60)) := ⟨rfl, rfl, rfl, by decide +kernel, rfl, by decide +kernel, by decide +kernel⟩
def rd__law_small (g : Wd) (j : Nat) (E : XK) : TS :=
  tSeq (tAsg (tOp (cIx g.K) (tLst (tCons (tOp (cAdd g.K noOw) (tC (.int 1)) (cCall g j (fun cls d _ H => E cls d H) (gad g.K "_law_take") (tCons (cV 0) (tCons (cV 1) (tCons (tC (.int 6)) (tNil)))))) (tCons (tC (.int 7)) (tNil)))) (tCB (cInt) (tCons (tOp (cEqN g.K false) (cCall g j (fun cls d _ H => E cls d H) (gad g.K "_law_take") (tCons (cV 0) (tCons (cV 1) (tCons (tC (.int 4)) (tNil))))) (tC (.int 0))) (tNil)))) (gName 2))
  (tSeq (tAsg (tOp (cAdd g.K noOw) (tC (.int 1)) (cCall g j (fun cls d _ H => E cls d H) (gad g.K "_law_take") (tCons (cV 0) (tCons (cV 1) (tCons (cV 2) (tNil)))))) (gName 3))
  (tSeq (tAsg (cCall g j (fun cls d _ H => E cls d H) (gad g.K "_law_pays") (tCons (cV 0) (tCons (cV 1) (tCons (tC (.int 3)) (tNil))))) (gName 4))
  (tSeq (tIfS (cTest (tOp (cEqN g.K false) (cCall g j (fun cls d _ H => E cls d H) (gad g.K "_law_take") (tCons (cV 0) (tCons (cV 1) (tCons (tC (.int 2)) (tNil))))) (tC (.int 0)))) (tAsg (cCall g j (fun cls d _ H => E cls d H) (gad g.K "_law_raised") (tCons (cV 4) (tCons (cV 3) (tCons (cV 2) (tNil))))) (gName 4)) (tNext))
  (tSeq (tAsg (cCall g j (fun cls d _ H => E cls d H) (gad g.K "_law_round") (tCons (cV 4) (tNil))) (gName 5))
  (tSeq (tIfS (tNot (cTru g.K (cCall g j (fun cls d _ H => E cls d H) (gad g.K "_law_edge") (tCons (cV 5) (tCons (cV 4) (tCons (cV 3) (tCons (cV 2) (tNil)))))))) (tRet (tC (.bl false))) (tNext))
  (tSeq (tAsg (cCall g j (fun cls d _ H => E cls d H) (gad g.K "_law_need") (tCons (cV 4) (tCons (cV 3) (tNil)))) (gName 6))
  (tSeq (tAsg (cCall g j (fun cls d _ H => E cls d H) (gad g.K "_law_levels") (tCons (cV 0) (tCons (cV 1) (tCons (cV 6) (tCons (cV 2) (tNil)))))) (gName 7))
  (tSeq (tAsg (cMake g j (fun cls d _ H => E cls d H) (gad g.K "Lazy") (tCons (tOp (cIx g.K) (cV 7) (tC (.int 0))) (tNil))) (gName 8))
  (tSeq (tFor (iSeq g.K (cV 7)) (gName 9) (tSeq (tDrop (cMeth g j (fun cls d _ H => E cls d H) "set_mark" (cV 8) (tCons (cV 9) (tNil))))
  (tSeq (tAsg (cAndV (cCall g j (fun cls d _ H => E cls d H) (gad g.K "_law_goes") (tCons (cV 4) (tCons (cV 3) (tCons (cV 2) (tNil))))) (tOp cGe (cV 9) (cV 6))) (gName 10))
  (tIfS (tNot (cTru g.K (cCall g j (fun cls d _ H => E cls d H) (gad g.K "_law_judged") (tCons (cCall g j (fun cls d _ H => E cls d H) (gad g.K "worst_row") (tCons (cV 8) (tCons (cV 2) (tCons (cV 3) (tCons (cV 5) (tNil)))))) (tCons (cV 10) (tCons (cV 9) (tCons (tLst (tCons (cV 2) (tCons (cV 3) (tNil)))) (tCons (cV 4) (tNil))))))))) (tRet (tC (.bl false))) (tNext)))))
  (tRet (tOp (cEqN g.K false) (cProp g j (cV 5) "budgets") (cV 4))))))))))))
theorem dv__law_small {g : Wd} (T : Top g) {j : Nat} {f : Addr} {cdv : Value} {A : Around} {outer : List Env} {s : Shared} {H : Hp} {E : XK} (hr : Room (j + 1) (A.deeper (envOfC "_law_small" (defScope (top 60)) s.heap.objs.size f cdv))) :
    PSs (cxOf (L2.CX g.P g.w) g.P g.w g.K g.mg g.base ["_law_script", "_law_box_here", "_law_wide", "_law_many", "_law_pays_here", "_law_made", "_law_need_here", "_law_levels_here", "_law_keeper", "_law_level", "_law_forever"] "_law_small" (defScope (top 60)) f cdv A outer s H E) (defBody (top 60)) (rd__law_small g j E) := by
  unfold rd__law_small
  exact (pss_cons (ps_set (i := 2) sc__law_small.nd rfl (Or.inl rfl) (pe_ix ix_c (pe_lst (pa_cons (pe_op (op_cAdd noOw_ok) pe_int (pe_cCall (takes_of rfl rfl rfl rfl) (hr.mono (Nat.le_succ _)) (gf__law_take T) (by rfl) (pa_cons (cv 0) (pa_cons (cv 1) (pa_cons pe_int pa_nil))))) (pa_cons pe_int pa_nil))) (pe_callTy (call_cInt) (by rfl) (bl_int T) bt_int (pa_cons (pe_cmpR (op_cEq hr.units) (pe_cCall (takes_of rfl rfl rfl rfl) (hr.mono (Nat.le_succ _)) (gf__law_take T) (by rfl) (pa_cons (cv 0) (pa_cons (cv 1) (pa_cons pe_int pa_nil)))) pe_int (nomark _)) pa_nil)) (fun _ _ => rfl)))
  (pss_cons (ps_set (i := 3) sc__law_small.nd rfl (Or.inl rfl) (pe_op (op_cAdd noOw_ok) pe_int (pe_cCall (takes_of rfl rfl rfl rfl) (hr.mono (Nat.le_succ _)) (gf__law_take T) (by rfl) (pa_cons (cv 0) (pa_cons (cv 1) (pa_cons (cv 2) pa_nil))))))
  (pss_cons (ps_set (i := 4) sc__law_small.nd rfl (Or.inl rfl) (pe_cCall (takes_of rfl rfl rfl rfl) (hr.mono (Nat.le_succ _)) (gf__law_pays T) (by rfl) (pa_cons (cv 0) (pa_cons (cv 1) (pa_cons pe_int pa_nil)))))
  (pss_cons (ps_if (ptc (op_cEq hr.units) (pe_cCall (takes_of rfl rfl rfl rfl) (hr.mono (Nat.le_succ _)) (gf__law_take T) (by rfl) (pa_cons (cv 0) (pa_cons (cv 1) (pa_cons pe_int pa_nil)))) pe_int (nomark _)) (pss_one (ps_set (i := 4) sc__law_small.nd rfl (Or.inl rfl) (pe_cCall (takes_of rfl rfl rfl rfl) (hr.mono (Nat.le_succ _)) (gf__law_raised T) (by rfl) (pa_cons (cv 4) (pa_cons (cv 3) (pa_cons (cv 2) pa_nil)))))) pss_nil)
  (pss_cons (ps_set (i := 5) sc__law_small.nd rfl (Or.inl rfl) (pe_cCall (takes_of rfl rfl rfl rfl) (hr.mono (Nat.le_succ _)) (gf__law_round T) (by rfl) (pa_cons (cv 4) pa_nil)))
  (pss_cons (ps_if (pt_not (ptv (pe_cCall (takes_of rfl rfl rfl rfl) (hr.mono (Nat.le_succ _)) (gf__law_edge T) (by rfl) (pa_cons (cv 5) (pa_cons (cv 4) (pa_cons (cv 3) (pa_cons (cv 2) pa_nil))))))) (pss_one (ps_ret pe_bl)) pss_nil)
  (pss_cons (ps_set (i := 6) sc__law_small.nd rfl (Or.inl rfl) (pe_cCall (takes_of rfl rfl rfl rfl) (hr.mono (Nat.le_succ _)) (gf__law_need T) (by rfl) (pa_cons (cv 4) (pa_cons (cv 3) pa_nil))))
  (pss_cons (ps_set (i := 7) sc__law_small.nd rfl (Or.inl rfl) (pe_cCall (takes_of rfl rfl rfl rfl) (hr.mono (Nat.le_succ _)) (gf__law_levels T) (by rfl) (pa_cons (cv 0) (pa_cons (cv 1) (pa_cons (cv 6) (pa_cons (cv 2) pa_nil))))))
  (pss_cons (ps_set (i := 8) sc__law_small.nd rfl (Or.inl rfl) (pe_cMake (takes_of rfl rfl rfl rfl) (hr.mono (Nat.le_succ _)) (gf_Lazy T) (by rfl) (pa_cons (pe_ix ix_c (cv 7) pe_int (fun _ _ => rfl)) pa_nil)))
  (pss_cons (ps_for (passes_of rfl) rfl (pi_seq (cv 7)) (pg_name sc__law_small.nd rfl (Or.inl rfl)) (pss_cons (ps_expr (pe_cMeth (takes_of rfl rfl rfl rfl) (hr.mono (Nat.le_succ _)) (cv 8) (pa_cons (cv 9) pa_nil)))
  (pss_cons (ps_set (i := 10) sc__law_small.nd rfl (Or.inl rfl) (pe_cAnd (pe_cCall (takes_of rfl rfl rfl rfl) (hr.mono (Nat.le_succ _)) (gf__law_goes T) (by rfl) (pa_cons (cv 4) (pa_cons (cv 3) (pa_cons (cv 2) pa_nil)))) (pe_one (pe_cmpR op_cGe (cv 9) (cv 6) (nomark _)))))
  (pss_one (ps_if (pt_not (ptv (pe_cCall (takes_of rfl rfl rfl rfl) (hr.mono (Nat.le_succ _)) (gf__law_judged T) (by rfl) (pa_cons (pe_cCall (takes_of rfl rfl rfl rfl) (hr.mono (Nat.le_succ _)) (gf_worst_row T) (by rfl) (pa_cons (cv 8) (pa_cons (cv 2) (pa_cons (cv 3) (pa_cons (cv 5) pa_nil))))) (pa_cons (cv 10) (pa_cons (cv 9) (pa_cons (pe_lst (pa_cons (cv 2) (pa_cons (cv 3) pa_nil))) (pa_cons (cv 4) pa_nil)))))))) (pss_one (ps_ret pe_bl)) pss_nil)))))
  (pss_one (ps_ret (pe_cmpR (op_cEq hr.units) (pe_cProp hr (cv 5)) (cv 4) (nomark _))))))))))))))
theorem ok__law_small {g : Wd} (T : Top g) {fd : FuncData} (F : FunD g.K "_law_small" "_law_small" (defArgs (top 60)) (defBody (top 60)) (defScope (top 60)) [] [] (gad g.K "_law_small") fd) {j : Nat} {sp : Sp} (h : ∀ vs H Q E, sp vs H Q E → vs.length = 2 ∧ rd__law_small g j E { nx := fun _ H1 => Q .non H1, rt := Q } (L2.start ["_law_script", "_law_box_here", "_law_wide", "_law_many", "_law_pays_here", "_law_made", "_law_need_here", "_law_levels_here", "_law_keeper", "_law_level", "_law_forever"] vs) H) : FnOk g.P g.w g.K g.mg g.base (L2.CX g.P g.w) (j + 2) (gad g.K "_law_small") fd ["_law_script", "_law_box_here"] sp :=
  FunD.ok F sc__law_small (fun vs H Q E hh => (h vs H Q E hh).1) fun cdv A outer s H vs Q E hr hh => ⟨rd__law_small g j E, dv__law_small T hr, (h vs H Q E hh).2⟩
theorem fk__law_small {g : Wd} (T : Top g) (j : Nat) {sp : Sp} (h : ∀ vs H Q E, sp vs H Q E → vs.length = 2 ∧ rd__law_small g j E { nx := fun _ H1 => Q .non H1, rt := Q } (L2.start ["_law_script", "_law_box_here", "_law_wide", "_law_many", "_law_pays_here", "_law_made", "_law_need_here", "_law_levels_here", "_law_keeper", "_law_level", "_law_forever"] vs) H) : FnG g (j + 2) (gad g.K "_law_small") sp := by
  obtain ⟨fd, F⟩ := fd__law_small T
  exact fnG_of (ok__law_small T F h) (FunD.bindsN F fun _ _ _ _ _ _ us hl => match us, hl with | [_, _], _ => rfl)
theorem sc__law_stall_row : FnScope ["_law_pays_here", "_law_level", "_law_many", "_law_wide", "_law_sums", "_law_pay", "_law_turn", "_law_k", "_law_shift"] ["_law_pays_here", "_law_level", "_law_many", "_law_wide"] (defScope (top 61)) := ⟨rfl, rfl, rfl, by decide +kernel, rfl, by decide +kernel, by decide +kernel⟩
def rd__law_stall_row (g : Wd) (j : Nat) (E : XK) : TS :=
  tSeq (tAsg (tLc (iSeq g.K (cV 0)) (gName 5) (tYes) (tC (.int 0)) [5]) (gName 4))
  (tSeq (tFor (iRng1 (tCons (cV 1) (tNil))) (gName 6) (tAsg (tLc (iRng1 (tCons (tCB (cLen g j) (tCons (cV 0) (tNil))) (tNil))) (gName 7) (tYes) (tOp (cAdd g.K noOw) (tOp (cIx g.K) (cV 4) (cV 7)) (tOp (cIx g.K) (cV 0) (tOp cMod (tCB (cInt) (tCons (tOp (cAdd g.K noOw) (cV 7) (cV 6)) (tNil))) (tCB (cLen g j) (tCons (cV 0) (tNil)))))) [7]) (gName 4)))
  (tSeq (tAsg (tOp cMod (tCB (cInt) (tCons (tOp (cAdd g.K noOw) (tOp cSub (tBM g.K "list" (rIndF g.K) (cV 4) (tCons (tCB (cMin g.K) (tCons (cV 4) (tNil))) (tNil))) (cV 3)) (cV 1)) (tNil))) (tCB (cLen g j) (tCons (cV 0) (tNil)))) (gName 8))
  (tRet (tOp (cAdd g.K noOw) (tOp (cAdd g.K noOw) (tOp cMul (tLst (tCons (tC .non) (tNil))) (cV 2)) (tOp cMul (tLst (tCons (tC (.int 0)) (tNil))) (cV 8))) (tOp cMul (tLst (tCons (tOp cSub (cV 2) (tC (.int 1))) (tNil))) (tOp (cAdd g.K noOw) (tOp cSub (cV 3) (cV 2)) (tC (.int 1))))))))
theorem dv__law_stall_row {g : Wd} (T : Top g) {j : Nat} {f : Addr} {cdv : Value} {A : Around} {outer : List Env} {s : Shared} {H : Hp} {E : XK} (hr : Room (j + 1) (A.deeper (envOfC "_law_stall_row" (defScope (top 61)) s.heap.objs.size f cdv))) :
    PSs (cxOf (L2.CX g.P g.w) g.P g.w g.K g.mg g.base ["_law_pays_here", "_law_level", "_law_many", "_law_wide", "_law_sums", "_law_pay", "_law_turn", "_law_k", "_law_shift"] "_law_stall_row" (defScope (top 61)) f cdv A outer s H E) (defBody (top 61)) (rd__law_stall_row g j E) := by
  unfold rd__law_stall_row
  exact (pss_cons (ps_set (i := 4) sc__law_stall_row.nd rfl (Or.inr rfl) (pe_lc rfl sc__law_stall_row.nd (pi_seq (cv 0)) (blkOk_by (own := [("_law_pay", 5)]) (by change blkC ["_law_pays_here", "_law_level", "_law_many", "_law_wide", "_law_sums", "_law_pay", "_law_turn", "_law_k", "_law_shift"] (defScope (top 61)) _ _ = true; decide +kernel)) (fun s H C cl fp => (pg_name sc__law_stall_row.nd rfl (Or.inl rfl))) (fun s H C cl fp => pts_nil) (fun s H C cl fp => pe_int)))
  (pss_cons (ps_for (passes_of rfl) rfl (pi_range1 (by rfl) (bl_range T) (pa_cons (cv 1) pa_nil)) (pg_name sc__law_stall_row.nd rfl (Or.inr rfl)) (pss_one (ps_set (i := 4) sc__law_stall_row.nd rfl (Or.inr rfl) (pe_lc rfl sc__law_stall_row.nd (pi_range1 (by rfl) (bl_range T) (pa_cons (pe_callB (call_cLen hr) (by rfl) (bl_len T) bt_len (pa_cons (cv 0) pa_nil)) pa_nil)) (blkOk_by (own := [("_law_k", 7)]) (by change blkC ["_law_pays_here", "_law_level", "_law_many", "_law_wide", "_law_sums", "_law_pay", "_law_turn", "_law_k", "_law_shift"] (defScope (top 61)) _ _ = true; decide +kernel)) (fun s H C cl fp => (pg_name sc__law_stall_row.nd rfl (Or.inl rfl))) (fun s H C cl fp => pts_nil) (fun s H C cl fp => (pe_op (op_cAdd noOw_ok) (pe_ix ix_c (cv 4) (cv 7) (fun _ _ => rfl)) (pe_ix ix_c (cv 0) (pe_op op_cMod (pe_callTy (call_cInt) (by rfl) (bl_int T) bt_int (pa_cons (pe_op (op_cAdd noOw_ok) (cv 7) (cv 6)) pa_nil)) (pe_callB (call_cLen hr) (by rfl) (bl_len T) bt_len (pa_cons (cv 0) pa_nil))) (fun _ _ => rfl))))))))
  (pss_cons (ps_set (i := 8) sc__law_stall_row.nd rfl (Or.inl rfl) (pe_op op_cMod (pe_callTy (call_cInt) (by rfl) (bl_int T) bt_int (pa_cons (pe_op (op_cAdd noOw_ok) (pe_op op_cSub (pe_bm PySem.F.plainAttrs_list PySem.F.slot_list_index PySem.F.type_list_index mt_indexF (cv 4) (pa_cons (pe_callB (call_cMin rfl) (by rfl) (bl_min T) bt_min (pa_cons (cv 4) pa_nil)) pa_nil)) (cv 3)) (cv 1)) pa_nil)) (pe_callB (call_cLen hr) (by rfl) (bl_len T) bt_len (pa_cons (cv 0) pa_nil))))
  (pss_one (ps_ret (pe_op (op_cAdd noOw_ok) (pe_op (op_cAdd noOw_ok) (pe_op op_cMul (pe_lst (pa_cons pe_non pa_nil)) (cv 2)) (pe_op op_cMul (pe_lst (pa_cons pe_int pa_nil)) (cv 8))) (pe_op op_cMul (pe_lst (pa_cons (pe_op op_cSub (cv 2) pe_int) pa_nil)) (pe_op (op_cAdd noOw_ok) (pe_op op_cSub (cv 3) (cv 2)) pe_int))))))))
theorem ok__law_stall_row {g : Wd} (T : Top g) {fd : FuncData} (F : FunD g.K "_law_stall_row" "_law_stall_row" (defArgs (top 61)) (defBody (top 61)) (defScope (top 61)) [] [] (gad g.K "_law_stall_row") fd) {j : Nat} {sp : Sp} (h : ∀ vs H Q E, sp vs H Q E → vs.length = 4 ∧ rd__law_stall_row g j E { nx := fun _ H1 => Q .non H1, rt := Q } (L2.start ["_law_pays_here", "_law_level", "_law_many", "_law_wide", "_law_sums", "_law_pay", "_law_turn", "_law_k", "_law_shift"] vs) H) : FnOk g.P g.w g.K g.mg g.base (L2.CX g.P g.w) (j + 2) (gad g.K "_law_stall_row") fd ["_law_pays_here", "_law_level", "_law_many", "_law_wide"] sp :=
  FunD.ok F sc__law_stall_row (fun vs H Q E hh => (h vs H Q E hh).1) fun cdv A outer s H vs Q E hr hh => ⟨rd__law_stall_row g j E, dv__law_stall_row T hr, (h vs H Q E hh).2⟩
theorem fk__law_stall_row {g : Wd} (T : Top g) (j : Nat) {sp : Sp} (h : ∀ vs H Q E, sp vs H Q E → vs.length = 4 ∧ rd__law_stall_row g j E { nx := fun _ H1 => Q .non H1, rt := Q } (L2.start ["_law_pays_here", "_law_level", "_law_many", "_law_wide", "_law_sums", "_law_pay", "_law_turn", "_law_k", "_law_shift"] vs) H) : FnG g (j + 2) (gad g.K "_law_stall_row") sp := by
  obtain ⟨fd, F⟩ := fd__law_stall_row T
  exact fnG_of (ok__law_stall_row T F h) (FunD.bindsN F fun _ _ _ _ _ _ us hl => match us, hl with | [_, _, _, _], _ => rfl)
theorem sc__law_moves : FnScope ["_law_script", "_law_box_here", "_law_row", "_law_many", "_law_size", "_law_moves_here", "_law_ones", "_law_k", "_law_way"] ["_law_script", "_law_box_here", "_law_row", "_law_many", "_law_size"] (defScope (top 62)) := ⟨rfl, rfl, rfl, by decide +kernel, rfl, by decide +kernel, by decide +kernel⟩
def rd__law_moves (g : Wd) (j : Nat) (E : XK) : TS :=
  tSeq (tAsg (tCB (cList g.K) (tCons (cV 2) (tNil))) (gName 5))
  (tSeq (tAsg (tBM g.K "list" (rCntF g.K) (cV 2) (tCons (tC .non) (tNil))) (gName 6))
  (tSeq (tFor (iRng1 (tCons (tOp cSub (cV 4) (tCB (cLen g j) (tCons (cV 2) (tNil)))) (tNil))) (gName 7) (tSeq (tAsg (cCall g j (fun cls d _ H => E cls d H) (gad g.K "_law_take") (tCons (cV 0) (tCons (cV 1) (tCons (tC (.int 8)) (tNil))))) (gName 8))
  (tIfS (tOr (cTest (tOp (cEqN g.K false) (cV 6) (tC (.int 0)))) (tAnd (cTest (tOp (cEqN g.K false) (cV 8) (tC (.int 0)))) (cTest (tOp cLt (cV 6) (cV 3))))) (tSeq (tDrop (cApp g.K (cV 5) (tCons (tC .non) (tNil))))
  (tAsg (tOp (cAdd g.K noOw) (cV 6) (tC (.int 1))) (gName 6))) (tIfS (cTest (tOp cLt (cV 8) (tC (.int 5)))) (tDrop (cApp g.K (cV 5) (tCons (tOp cSub (cV 6) (tC (.int 1))) (tNil)))) (tDrop (cApp g.K (cV 5) (tCons (cCall g j (fun cls d _ H => E cls d H) (gad g.K "_law_take") (tCons (cV 0) (tCons (cV 1) (tCons (cV 6) (tNil))))) (tNil))))))))
  (tRet (cV 5))))
theorem dv__law_moves {g : Wd} (T : Top g) {j : Nat} {f : Addr} {cdv : Value} {A : Around} {outer : List Env} {s : Shared} {H : Hp} {E : XK} (hr : Room (j + 1) (A.deeper (envOfC "_law_moves" (defScope (top 62)) s.heap.objs.size f cdv))) :
    PSs (cxOf (L2.CX g.P g.w) g.P g.w g.K g.mg g.base ["_law_script", "_law_box_here", "_law_row", "_law_many", "_law_size", "_law_moves_here", "_law_ones", "_law_k", "_law_way"] "_law_moves" (defScope (top 62)) f cdv A outer s H E) (defBody (top 62)) (rd__law_moves g j E) := by
  unfold rd__law_moves
  exact (pss_cons (ps_set (i := 5) sc__law_moves.nd rfl (Or.inl rfl) (pe_callTy (call_cList) (by rfl) (bl_list T) bt_list (pa_cons (cv 2) pa_nil)))
  (pss_cons (ps_set (i := 6) sc__law_moves.nd rfl (Or.inl rfl) (pe_bm PySem.F.plainAttrs_list PySem.F.slot_list_count PySem.F.type_list_count mt_lcountF (cv 2) (pa_cons pe_non pa_nil)))
  (pss_cons (ps_for (passes_of rfl) rfl (pi_range1 (by rfl) (bl_range T) (pa_cons (pe_op op_cSub (cv 4) (pe_callB (call_cLen hr) (by rfl) (bl_len T) bt_len (pa_cons (cv 2) pa_nil))) pa_nil)) (pg_name sc__law_moves.nd rfl (Or.inl rfl)) (pss_cons (ps_set (i := 8) sc__law_moves.nd rfl (Or.inl rfl) (pe_cCall (takes_of rfl rfl rfl rfl) (hr.mono (Nat.le_succ _)) (gf__law_take T) (by rfl) (pa_cons (cv 0) (pa_cons (cv 1) (pa_cons pe_int pa_nil)))))
  (pss_one (ps_if (pw_or (ptc (op_cEq hr.units) (cv 6) pe_int (nomark _)) (pw_or1 (pw_and (ptc (op_cEq hr.units) (cv 8) pe_int (nomark _)) (pw_and1 (ptc op_cLt (cv 6) (cv 3) (nomark _)))).pt)).pt (pss_cons (ps_expr (pe_cApp (cv 5) (pa_cons pe_non pa_nil)))
  (pss_one (ps_set (i := 6) sc__law_moves.nd rfl (Or.inl rfl) (pe_op (op_cAdd noOw_ok) (cv 6) pe_int)))) (pss_one (ps_if (ptc op_cLt (cv 8) pe_int (nomark _)) (pss_one (ps_expr (pe_cApp (cv 5) (pa_cons (pe_op op_cSub (cv 6) pe_int) pa_nil)))) (pss_one (ps_expr (pe_cApp (cv 5) (pa_cons (pe_cCall (takes_of rfl rfl rfl rfl) (hr.mono (Nat.le_succ _)) (gf__law_take T) (by rfl) (pa_cons (cv 0) (pa_cons (cv 1) (pa_cons (cv 6) pa_nil)))) pa_nil))))))))))
  (pss_one (ps_ret (cv 5))))))
theorem ok__law_moves {g : Wd} (T : Top g) {fd : FuncData} (F : FunD g.K "_law_moves" "_law_moves" (defArgs (top 62)) (defBody (top 62)) (defScope (top 62)) [] [] (gad g.K "_law_moves") fd) {j : Nat} {sp : Sp} (h : ∀ vs H Q E, sp vs H Q E → vs.length = 5 ∧ rd__law_moves g j E { nx := fun _ H1 => Q .non H1, rt := Q } (L2.start ["_law_script", "_law_box_here", "_law_row", "_law_many", "_law_size", "_law_moves_here", "_law_ones", "_law_k", "_law_way"] vs) H) : FnOk g.P g.w g.K g.mg g.base (L2.CX g.P g.w) (j + 2) (gad g.K "_law_moves") fd ["_law_script", "_law_box_here", "_law_row", "_law_many", "_law_size"] sp :=
  FunD.ok F sc__law_moves (fun vs H Q E hh => (h vs H Q E hh).1) fun cdv A outer s H vs Q E hr hh => ⟨rd__law_moves g j E, dv__law_moves T hr, (h vs H Q E hh).2⟩
theorem fk__law_moves {g : Wd} (T : Top g) (j : Nat) {sp : Sp} (h : ∀ vs H Q E, sp vs H Q E → vs.length = 5 ∧ rd__law_moves g j E { nx := fun _ H1 => Q .non H1, rt := Q } (L2.start ["_law_script", "_law_box_here", "_law_row", "_law_many", "_law_size", "_law_moves_here", "_law_ones", "_law_k", "_law_way"] vs) H) : FnG g (j + 2) (gad g.K "_law_moves") sp := by
  obtain ⟨fd, F⟩ := fd__law_moves T
  exact fnG_of (ok__law_moves T F h) (FunD.bindsN F fun _ _ _ _ _ _ us hl => match us, hl with | [_, _, _, _, _], _ => rfl)
theorem sc__law_runs : FnScope ["_law_keeper", "_law_moves_here", "_law_due", "_law_terms", "_law_made", "_law_handed", "_law_told"] ["_law_keeper", "_law_moves_here", "_law_due", "_law_terms", "_law_made"] (defScope (top 63)) := ⟨rfl, rfl, rfl, by decide +kernel, rfl, by decide +kernel, by decide +kernel⟩
def rd__law_runs (g : Wd) (j : Nat) (E : XK) : TS :=
  tSeq (tAsg (tCB (cList g.K) (tCons (cV 1) (tNil))) (gName 5))
  (tSeq (tAsg (cCall g j (fun cls d _ H => E cls d H) (gad g.K "run_row") (tCons (cV 0) (tCons (cV 5) (tCons (tOp (cIx g.K) (cV 3) (tC (.int 0))) (tCons (tOp (cIx g.K) (cV 3) (tC (.int 1))) (tCons (cV 4) (tNil))))))) (gName 6))
  (tSeq (tIfS (tOr (tNot (cTru g.K (tCB (cIsi g.K) (tCons (cV 6) (tCons (tC (.ty "list")) (tNil)))))) (tOr (cTest (tOp (cEqN g.K true) (cV 6) (cV 2))) (cTest (tOp (cEqN g.K true) (cV 5) (cV 1))))) (tRet (tC (.bl false))) (tNext))
  (tSeq (tDrop (cApp g.K (cV 6) (tCons (tC (.str "1")) (tNil))))
  (tRet (tOp (cEqN g.K false) (cCall g j (fun cls d _ H => E cls d H) (gad g.K "run_row") (tCons (cV 0) (tCons (cV 5) (tCons (tOp (cIx g.K) (cV 3) (tC (.int 0))) (tCons (tOp (cIx g.K) (cV 3) (tC (.int 1))) (tCons (cV 4) (tNil))))))) (cV 2))))))
theorem dv__law_runs {g : Wd} (T : Top g) {j : Nat} {f : Addr} {cdv : Value} {A : Around} {outer : List Env} {s : Shared} {H : Hp} {E : XK} (hr : Room (j + 1) (A.deeper (envOfC "_law_runs" (defScope (top 63)) s.heap.objs.size f cdv))) :
    PSs (cxOf (L2.CX g.P g.w) g.P g.w g.K g.mg g.base ["_law_keeper", "_law_moves_here", "_law_due", "_law_terms", "_law_made", "_law_handed", "_law_told"] "_law_runs" (defScope (top 63)) f cdv A outer s H E) (defBody (top 63)) (rd__law_runs g j E) := by
  unfold rd__law_runs
  exact (pss_cons (ps_set (i := 5) sc__law_runs.nd rfl (Or.inl rfl) (pe_callTy (call_cList) (by rfl) (bl_list T) bt_list (pa_cons (cv 1) pa_nil)))
  (pss_cons (ps_set (i := 6) sc__law_runs.nd rfl (Or.inl rfl) (pe_cCall (takes_of rfl rfl rfl rfl) (hr.mono (Nat.le_succ _)) (gf_run_row T) (by rfl) (pa_cons (cv 0) (pa_cons (cv 5) (pa_cons (pe_ix ix_c (cv 3) pe_int (fun _ _ => rfl)) (pa_cons (pe_ix ix_c (cv 3) pe_int (fun _ _ => rfl)) (pa_cons (cv 4) pa_nil)))))))
  (pss_cons (ps_if (pw_or (pt_not (ptv (pe_callB (call_cIsi) (by rfl) (bl_isinstance T) bt_isinstance (pa_cons (cv 6) (pa_cons (pe_bltn (v := .ty "list") (by rfl) (bl_list T) bt_list (by rfl)) pa_nil))))) (pw_or (ptc (op_cNe hr.units) (cv 6) (cv 2) (nomark _)) (pw_or1 (ptc (op_cNe hr.units) (cv 5) (cv 1) (nomark _))))).pt (pss_one (ps_ret pe_bl)) pss_nil)
  (pss_cons (ps_expr (pe_cApp (cv 6) (pa_cons pe_str pa_nil)))
  (pss_one (ps_ret (pe_cmpR (op_cEq hr.units) (pe_cCall (takes_of rfl rfl rfl rfl) (hr.mono (Nat.le_succ _)) (gf_run_row T) (by rfl) (pa_cons (cv 0) (pa_cons (cv 5) (pa_cons (pe_ix ix_c (cv 3) pe_int (fun _ _ => rfl)) (pa_cons (pe_ix ix_c (cv 3) pe_int (fun _ _ => rfl)) (pa_cons (cv 4) pa_nil)))))) (cv 2) (nomark _))))))))
theorem ok__law_runs {g : Wd} (T : Top g) {fd : FuncData} (F : FunD g.K "_law_runs" "_law_runs" (defArgs (top 63)) (defBody (top 63)) (defScope (top 63)) [] [] (gad g.K "_law_runs") fd) {j : Nat} {sp : Sp} (h : ∀ vs H Q E, sp vs H Q E → vs.length = 5 ∧ rd__law_runs g j E { nx := fun _ H1 => Q .non H1, rt := Q } (L2.start ["_law_keeper", "_law_moves_here", "_law_due", "_law_terms", "_law_made", "_law_handed", "_law_told"] vs) H) : FnOk g.P g.w g.K g.mg g.base (L2.CX g.P g.w) (j + 2) (gad g.K "_law_runs") fd ["_law_keeper", "_law_moves_here", "_law_due", "_law_terms", "_law_made"] sp :=
  FunD.ok F sc__law_runs (fun vs H Q E hh => (h vs H Q E hh).1) fun cdv A outer s H vs Q E hr hh => ⟨rd__law_runs g j E, dv__law_runs T hr, (h vs H Q E hh).2⟩
theorem fk__law_runs {g : Wd} (T : Top g) (j : Nat) {sp : Sp} (h : ∀ vs H Q E, sp vs H Q E → vs.length = 5 ∧ rd__law_runs g j E { nx := fun _ H1 => Q .non H1, rt := Q } (L2.start ["_law_keeper", "_law_moves_here", "_law_due", "_law_terms", "_law_made", "_law_handed", "_law_told"] vs) H) : FnG g (j + 2) (gad g.K "_law_runs") sp := by
  obtain ⟨fd, F⟩ := fd__law_runs T
  exact fnG_of (ok__law_runs T F h) (FunD.bindsN F fun _ _ _ _ _ _ us hl => match us, hl with | [_, _, _, _, _], _ => rfl)
theorem sc__law_lower : FnScope ["_law_script", "_law_box_here", "_law_pays_here", "_law_need_here", "_law_terms", "_law_made", "_law_level", "_law_row", "_law_due"] ["_law_script", "_law_box_here", "_law_pays_here", "_law_need_here", "_law_terms", "_law_made"] (defScope (top 64)) := ⟨rfl, rfl, rfl, by decide +kernel, rfl, by decide +kernel, by decide +kernel⟩
def rd__law_lower (g : Wd) (j : Nat) (E : XK) : TS :=
  tSeq (tAsg (cCall g j (fun cls d _ H => E cls d H) (gad g.K "_law_take") (tCons (cV 0) (tCons (cV 1) (tCons (cV 3) (tNil))))) (gName 6))
  (tSeq (tIfS (cTest (tOp (cEqN g.K false) (cCall g j (fun cls d _ H => E cls d H) (gad g.K "_law_take") (tCons (cV 0) (tCons (cV 1) (tCons (tC (.int 2)) (tNil))))) (tC (.int 0)))) (tAsg (tOp cSub (cV 3) (tC (.int 1))) (gName 6)) (tNext))
  (tSeq (tAsg (cCall g j (fun cls d _ H => E cls d H) (gad g.K "_law_stall_row") (tCons (cV 2) (tCons (cV 6) (tCons (tOp (cIx g.K) (cV 4) (tC (.int 1))) (tCons (tOp (cIx g.K) (cV 4) (tC (.int 0))) (tNil)))))) (gName 7))
  (tSeq (tAsg (cCall g j (fun cls d _ H => E cls d H) (gad g.K "_law_play") (tCons (cV 6) (tCons (cV 7) (tCons (tOp (cIx g.K) (cV 4) (tC (.int 0))) (tCons (tOp (cIx g.K) (cV 4) (tC (.int 1))) (tCons (cV 2) (tNil))))))) (gName 8))
  (tSeq (tIfS (cTest (tOp (cEqN g.K true) (tCB (cLen g j) (tCons (cV 8) (tNil))) (tOp cSub (tCB (cLen g j) (tCons (cV 7) (tNil))) (tC (.int 1))))) (tRet (tC (.bl false))) (tNext))
  (tRet (cCall g j (fun cls d _ H => E cls d H) (gad g.K "_law_runs") (tCons (cMake g j (fun cls d _ H => E cls d H) (gad g.K "Lazy") (tCons (cV 6) (tNil))) (tCons (tOp (cAdd g.K noOw) (cV 7) (tLst (tCons (tUn cNeg (tC (.int 1))) (tCons (tOp (cIx g.K) (cV 4) (tC (.int 1))) (tCons (tC .non) (tNil)))))) (tCons (cV 8) (tCons (cV 4) (tCons (cV 5) (tNil))))))))))))
theorem dv__law_lower {g : Wd} (T : Top g) {j : Nat} {f : Addr} {cdv : Value} {A : Around} {outer : List Env} {s : Shared} {H : Hp} {E : XK} (hr : Room (j + 1) (A.deeper (envOfC "_law_lower" (defScope (top 64)) s.heap.objs.size f cdv))) :
    PSs (cxOf (L2.CX g.P g.w) g.P g.w g.K g.mg g.base ["_law_script", "_law_box_here", "_law_pays_here", "_law_need_here", "_law_terms", "_law_made", "_law_level", "_law_row", "_law_due"] "_law_lower" (defScope (top 64)) f cdv A outer s H E) (defBody (top 64)) (rd__law_lower g j E) := by
  unfold rd__law_lower
  exact (pss_cons (ps_set (i := 6) sc__law_lower.nd rfl (Or.inl rfl) (pe_cCall (takes_of rfl rfl rfl rfl) (hr.mono (Nat.le_succ _)) (gf__law_take T) (by rfl) (pa_cons (cv 0) (pa_cons (cv 1) (pa_cons (cv 3) pa_nil)))))
  (pss_cons (ps_if (ptc (op_cEq hr.units) (pe_cCall (takes_of rfl rfl rfl rfl) (hr.mono (Nat.le_succ _)) (gf__law_take T) (by rfl) (pa_cons (cv 0) (pa_cons (cv 1) (pa_cons pe_int pa_nil)))) pe_int (nomark _)) (pss_one (ps_set (i := 6) sc__law_lower.nd rfl (Or.inl rfl) (pe_op op_cSub (cv 3) pe_int))) pss_nil)
  (pss_cons (ps_set (i := 7) sc__law_lower.nd rfl (Or.inl rfl) (pe_cCall (takes_of rfl rfl rfl rfl) (hr.mono (Nat.le_succ _)) (gf__law_stall_row T) (by rfl) (pa_cons (cv 2) (pa_cons (cv 6) (pa_cons (pe_ix ix_c (cv 4) pe_int (fun _ _ => rfl)) (pa_cons (pe_ix ix_c (cv 4) pe_int (fun _ _ => rfl)) pa_nil))))))
  (pss_cons (ps_set (i := 8) sc__law_lower.nd rfl (Or.inl rfl) (pe_cCall (takes_of rfl rfl rfl rfl) (hr.mono (Nat.le_succ _)) (gf__law_play T) (by rfl) (pa_cons (cv 6) (pa_cons (cv 7) (pa_cons (pe_ix ix_c (cv 4) pe_int (fun _ _ => rfl)) (pa_cons (pe_ix ix_c (cv 4) pe_int (fun _ _ => rfl)) (pa_cons (cv 2) pa_nil)))))))
  (pss_cons (ps_if (ptc (op_cNe hr.units) (pe_callB (call_cLen hr) (by rfl) (bl_len T) bt_len (pa_cons (cv 8) pa_nil)) (pe_op op_cSub (pe_callB (call_cLen hr) (by rfl) (bl_len T) bt_len (pa_cons (cv 7) pa_nil)) pe_int) (nomark _)) (pss_one (ps_ret pe_bl)) pss_nil)
  (pss_one (ps_ret (pe_cCall (takes_of rfl rfl rfl rfl) (hr.mono (Nat.le_succ _)) (gf__law_runs T) (by rfl) (pa_cons (pe_cMake (takes_of rfl rfl rfl rfl) (hr.mono (Nat.le_succ _)) (gf_Lazy T) (by rfl) (pa_cons (cv 6) pa_nil)) (pa_cons (pe_op (op_cAdd noOw_ok) (cv 7) (pe_lst (pa_cons (pe_un un_cNeg pe_int) (pa_cons (pe_ix ix_c (cv 4) pe_int (fun _ _ => rfl)) (pa_cons pe_non pa_nil))))) (pa_cons (cv 8) (pa_cons (cv 4) (pa_cons (cv 5) pa_nil)))))))))))))
theorem ok__law_lower {g : Wd} (T : Top g) {fd : FuncData} (F : FunD g.K "_law_lower" "_law_lower" (defArgs (top 64)) (defBody (top 64)) (defScope (top 64)) [] [] (gad g.K "_law_lower") fd) {j : Nat} {sp : Sp} (h : ∀ vs H Q E, sp vs H Q E → vs.length = 6 ∧ rd__law_lower g j E { nx := fun _ H1 => Q .non H1, rt := Q } (L2.start ["_law_script", "_law_box_here", "_law_pays_here", "_law_need_here", "_law_terms", "_law_made", "_law_level", "_law_row", "_law_due"] vs) H) : FnOk g.P g.w g.K g.mg g.base (L2.CX g.P g.w) (j + 2) (gad g.K "_law_lower") fd ["_law_script", "_law_box_here", "_law_pays_here", "_law_need_here", "_law_terms", "_law_made"] sp :=
  FunD.ok F sc__law_lower (fun vs H Q E hh => (h vs H Q E hh).1) fun cdv A outer s H vs Q E hr hh => ⟨rd__law_lower g j E, dv__law_lower T hr, (h vs H Q E hh).2⟩
theorem fk__law_lower {g : Wd} (T : Top g) (j : Nat) {sp : Sp} (h : ∀ vs H Q E, sp vs H Q E → vs.length = 6 ∧ rd__law_lower g j E { nx := fun _ H1 => Q .non H1, rt := Q } (L2.start ["_law_script", "_law_box_here", "_law_pays_here", "_law_need_here", "_law_terms", "_law_made", "_law_level", "_law_row", "_law_due"] vs) H) : FnG g (j + 2) (gad g.K "_law_lower") sp := by
  obtain ⟨fd, F⟩ := fd__law_lower T
  exact fnG_of (ok__law_lower T F h) (FunD.bindsN F fun _ _ _ _ _ _ us hl => match us, hl with | [_, _, _, _, _, _], _ => rfl)
theorem sc__law_higher : FnScope ["_law_script", "_law_box_here", "_law_pays_here", "_law_need_here", "_law_terms", "_law_made", "_law_level", "_law_row", "_law_size", "_law_moves_here", "_law_due"] ["_law_script", "_law_box_here", "_law_pays_here", "_law_need_here", "_law_terms", "_law_made"] (defScope (top 65)) := ⟨rfl, rfl, rfl, by decide +kernel, rfl, by decide +kernel, by decide +kernel⟩
def rd__law_higher (g : Wd) (j : Nat) (E : XK) : TS :=
  tSeq (tAsg (tOp (cAdd g.K noOw) (cV 3) (tOp (cIx g.K) (tLst (tCons (tC (.int 0)) (tCons (tC (.int 0)) (tCons (tC (.int 1)) (tCons (tC (.int 30)) (tNil)))))) (cCall g j (fun cls d _ H => E cls d H) (gad g.K "_law_take") (tCons (cV 0) (tCons (cV 1) (tCons (tC (.int 4)) (tNil))))))) (gName 6))
  (tSeq (tAsg (tLst (tNil)) (gName 7))
  (tSeq (tIfS (cTest (tOp (cEqN g.K false) (cCall g j (fun cls d _ H => E cls d H) (gad g.K "_law_take") (tCons (cV 0) (tCons (cV 1) (tCons (tC (.int 2)) (tNil))))) (tC (.int 0)))) (tAsg (cCall g j (fun cls d _ H => E cls d H) (gad g.K "_law_stall_row") (tCons (cV 2) (tCons (tCB (cMax g.K) (tCons (tC (.int 0)) (tCons (tOp cSub (cV 3) (tC (.int 1))) (tNil)))) (tCons (tOp (cIx g.K) (cV 4) (tC (.int 1))) (tCons (tOp (cIx g.K) (cV 4) (tC (.int 0))) (tNil)))))) (gName 7)) (tNext))
  (tSeq (tAsg (tCB (cMax g.K) (tCons (tCB (cLen g j) (tCons (cV 7) (tNil))) (tCons (tOp (cIx g.K) (tLst (tCons (tC (.int 64)) (tCons (tOp (cAdd g.K noOw) (tC (.int 1)) (cCall g j (fun cls d _ H => E cls d H) (gad g.K "_law_take") (tCons (cV 0) (tCons (cV 1) (tCons (tC (.int 64)) (tNil)))))) (tNil)))) (cCall g j (fun cls d _ H => E cls d H) (gad g.K "_law_take") (tCons (cV 0) (tCons (cV 1) (tCons (tC (.int 2)) (tNil)))))) (tNil)))) (gName 8))
  (tSeq (tAsg (cCall g j (fun cls d _ H => E cls d H) (gad g.K "_law_moves") (tCons (cV 0) (tCons (cV 1) (tCons (cV 7) (tCons (tOp (cIx g.K) (cV 4) (tC (.int 1))) (tCons (cV 8) (tNil))))))) (gName 9))
  (tSeq (tAsg (cCall g j (fun cls d _ H => E cls d H) (gad g.K "_law_play") (tCons (cV 6) (tCons (cV 9) (tCons (tOp (cIx g.K) (cV 4) (tC (.int 0))) (tCons (tOp (cIx g.K) (cV 4) (tC (.int 1))) (tCons (cV 2) (tNil))))))) (gName 10))
  (tSeq (tIfS (cTest (tOp (cEqN g.K true) (tCB (cLen g j) (tCons (cV 10) (tNil))) (tCB (cLen g j) (tCons (cV 9) (tNil))))) (tRet (tC (.bl false))) (tNext))
  (tRet (cCall g j (fun cls d _ H => E cls d H) (gad g.K "_law_runs") (tCons (cMake g j (fun cls d _ H => E cls d H) (gad g.K "Lazy") (tCons (cV 6) (tNil))) (tCons (cV 9) (tCons (cV 10) (tCons (cV 4) (tCons (cV 5) (tNil))))))))))))))
theorem dv__law_higher {g : Wd} (T : Top g) {j : Nat} {f : Addr} {cdv : Value} {A : Around} {outer : List Env} {s : Shared} {H : Hp} {E : XK} (hr : Room (j + 1) (A.deeper (envOfC "_law_higher" (defScope (top 65)) s.heap.objs.size f cdv))) :
    PSs (cxOf (L2.CX g.P g.w) g.P g.w g.K g.mg g.base ["_law_script", "_law_box_here", "_law_pays_here", "_law_need_here", "_law_terms", "_law_made", "_law_level", "_law_row", "_law_size", "_law_moves_here", "_law_due"] "_law_higher" (defScope (top 65)) f cdv A outer s H E) (defBody (top 65)) (rd__law_higher g j E) := by
  unfold rd__law_higher
  exact (pss_cons (ps_set (i := 6) sc__law_higher.nd rfl (Or.inl rfl) (pe_op (op_cAdd noOw_ok) (cv 3) (pe_ix ix_c (pe_lst (pa_cons pe_int (pa_cons pe_int (pa_cons pe_int (pa_cons pe_int pa_nil))))) (pe_cCall (takes_of rfl rfl rfl rfl) (hr.mono (Nat.le_succ _)) (gf__law_take T) (by rfl) (pa_cons (cv 0) (pa_cons (cv 1) (pa_cons pe_int pa_nil)))) (fun _ _ => rfl))))
  (pss_cons (ps_set (i := 7) sc__law_higher.nd rfl (Or.inl rfl) (pe_lst pa_nil))
  (pss_cons (ps_if (ptc (op_cEq hr.units) (pe_cCall (takes_of rfl rfl rfl rfl) (hr.mono (Nat.le_succ _)) (gf__law_take T) (by rfl) (pa_cons (cv 0) (pa_cons (cv 1) (pa_cons pe_int pa_nil)))) pe_int (nomark _)) (pss_one (ps_set (i := 7) sc__law_higher.nd rfl (Or.inl rfl) (pe_cCall (takes_of rfl rfl rfl rfl) (hr.mono (Nat.le_succ _)) (gf__law_stall_row T) (by rfl) (pa_cons (cv 2) (pa_cons (pe_callB (call_cMax rfl) (by rfl) (bl_max T) bt_max (pa_cons pe_int (pa_cons (pe_op op_cSub (cv 3) pe_int) pa_nil))) (pa_cons (pe_ix ix_c (cv 4) pe_int (fun _ _ => rfl)) (pa_cons (pe_ix ix_c (cv 4) pe_int (fun _ _ => rfl)) pa_nil))))))) pss_nil)
  (pss_cons (ps_set (i := 8) sc__law_higher.nd rfl (Or.inl rfl) (pe_callB (call_cMax rfl) (by rfl) (bl_max T) bt_max (pa_cons (pe_callB (call_cLen hr) (by rfl) (bl_len T) bt_len (pa_cons (cv 7) pa_nil)) (pa_cons (pe_ix ix_c (pe_lst (pa_cons pe_int (pa_cons (pe_op (op_cAdd noOw_ok) pe_int (pe_cCall (takes_of rfl rfl rfl rfl) (hr.mono (Nat.le_succ _)) (gf__law_take T) (by rfl) (pa_cons (cv 0) (pa_cons (cv 1) (pa_cons pe_int pa_nil))))) pa_nil))) (pe_cCall (takes_of rfl rfl rfl rfl) (hr.mono (Nat.le_succ _)) (gf__law_take T) (by rfl) (pa_cons (cv 0) (pa_cons (cv 1) (pa_cons pe_int pa_nil)))) (fun _ _ => rfl)) pa_nil))))
  (pss_cons (ps_set (i := 9) sc__law_higher.nd rfl (Or.inl rfl) (pe_cCall (takes_of rfl rfl rfl rfl) (hr.mono (Nat.le_succ _)) (gf__law_moves T) (by rfl) (pa_cons (cv 0) (pa_cons (cv 1) (pa_cons (cv 7) (pa_cons (pe_ix ix_c (cv 4) pe_int (fun _ _ => rfl)) (pa_cons (cv 8) pa_nil)))))))
  (pss_cons (ps_set (i := 10) sc__law_higher.nd rfl (Or.inl rfl) (pe_cCall (takes_of rfl rfl rfl rfl) (hr.mono (Nat.le_succ _)) (gf__law_play T) (by rfl) (pa_cons (cv 6) (pa_cons (cv 9) (pa_cons (pe_ix ix_c (cv 4) pe_int (fun _ _ => rfl)) (pa_cons (pe_ix ix_c (cv 4) pe_int (fun _ _ => rfl)) (pa_cons (cv 2) pa_nil)))))))
  (pss_cons (ps_if (ptc (op_cNe hr.units) (pe_callB (call_cLen hr) (by rfl) (bl_len T) bt_len (pa_cons (cv 10) pa_nil)) (pe_callB (call_cLen hr) (by rfl) (bl_len T) bt_len (pa_cons (cv 9) pa_nil)) (nomark _)) (pss_one (ps_ret pe_bl)) pss_nil)
  (pss_one (ps_ret (pe_cCall (takes_of rfl rfl rfl rfl) (hr.mono (Nat.le_succ _)) (gf__law_runs T) (by rfl) (pa_cons (pe_cMake (takes_of rfl rfl rfl rfl) (hr.mono (Nat.le_succ _)) (gf_Lazy T) (by rfl) (pa_cons (cv 6) pa_nil)) (pa_cons (cv 9) (pa_cons (cv 10) (pa_cons (cv 4) (pa_cons (cv 5) pa_nil)))))))))))))))
theorem ok__law_higher {g : Wd} (T : Top g) {fd : FuncData} (F : FunD g.K "_law_higher" "_law_higher" (defArgs (top 65)) (defBody (top 65)) (defScope (top 65)) [] [] (gad g.K "_law_higher") fd) {j : Nat} {sp : Sp} (h : ∀ vs H Q E, sp vs H Q E → vs.length = 6 ∧ rd__law_higher g j E { nx := fun _ H1 => Q .non H1, rt := Q } (L2.start ["_law_script", "_law_box_here", "_law_pays_here", "_law_need_here", "_law_terms", "_law_made", "_law_level", "_law_row", "_law_size", "_law_moves_here", "_law_due"] vs) H) : FnOk g.P g.w g.K g.mg g.base (L2.CX g.P g.w) (j + 2) (gad g.K "_law_higher") fd ["_law_script", "_law_box_here", "_law_pays_here", "_law_need_here", "_law_terms", "_law_made"] sp :=
  FunD.ok F sc__law_higher (fun vs H Q E hh => (h vs H Q E hh).1) fun cdv A outer s H vs Q E hr hh => ⟨rd__law_higher g j E, dv__law_higher T hr, (h vs H Q E hh).2⟩
theorem fk__law_higher {g : Wd} (T : Top g) (j : Nat) {sp : Sp} (h : ∀ vs H Q E, sp vs H Q E → vs.length = 6 ∧ rd__law_higher g j E { nx := fun _ H1 => Q .non H1, rt := Q } (L2.start ["_law_script", "_law_box_here", "_law_pays_here", "_law_need_here", "_law_terms", "_law_made", "_law_level", "_law_row", "_law_size", "_law_moves_here", "_law_due"] vs) H) : FnG g (j + 2) (gad g.K "_law_higher") sp := by
  obtain ⟨fd, F⟩ := fd__law_higher T
  exact fnG_of (ok__law_higher T F h) (FunD.bindsN F fun _ _ _ _ _ _ us hl => match us, hl with | [_, _, _, _, _, _], _ => rfl)
theorem sc__law_large : FnScope ["_law_script", "_law_box_here", "_law_more", "_law_pays_here", "_law_found", "_law_many", "_law_turn", "_law_need_here", "_law_wide", "_law_made"] ["_law_script", "_law_box_here", "_law_more"] (defScope (top 66)) := ⟨rfl, rfl, rfl, by decide +kernel, rfl, by decide +kernel, by decide +kernel⟩
def rd__law_large (g : Wd) (j : Nat) (E : XK) : TS :=
  tSeq (tAsg (cCall g j (fun cls d _ H => E cls d H) (gad g.K "_law_pays") (tCons (cV 0) (tCons (cV 1) (tCons (tC (.int 12)) (tNil))))) (gName 3))
  (tSeq (tIfS (cTest (tOp (cEqN g.K false) (tCB (cSum g.K) (tCons (cV 3) (tNil))) (tC (.int 0)))) (tAsg (tOp (cAdd g.K noOw) (tLst (tCons (tC (.int 1)) (tNil))) (tSl (cSl g.K) (cV 3) (cPart (tC (.int 1))) (tNoPart))) (gName 3)) (tNext))
  (tSeq (tAsg (cCall g j (fun cls d _ H => E cls d H) (gad g.K "_law_reaches") (tCons (cV 3) (tCons (tC (.int 20)) (tNil)))) (gName 4))
  (tSeq (tAsg (tOp (cAdd g.K noOw) (tC (.int 1)) (cCall g j (fun cls d _ H => E cls d H) (gad g.K "_law_take") (tCons (cV 0) (tCons (cV 2) (tCons (tC (.int 20)) (tNil)))))) (gName 5))
  (tSeq (tFor (iRng1 (tCons (tC (.int 20)) (tNil))) (gName 6) (tIfS (cTest (tOp cGt (tOp (cAdd g.K noOw) (cV 5) (tOp (cIx g.K) (cV 4) (tOp cSub (cV 5) (tC (.int 1))))) (tC (.int 45)))) (tAsg (tOp cSub (cV 5) (tC (.int 1))) (gName 5)) (tNext)))
  (tSeq (tAsg (tOp (cIx g.K) (cV 4) (tOp cSub (cV 5) (tC (.int 1)))) (gName 7))
  (tSeq (tAsg (tOp (cAdd g.K noOw) (tOp (cAdd g.K noOw) (cV 5) (cV 7)) (cCall g j (fun cls d _ H => E cls d H) (gad g.K "_law_take") (tCons (cV 0) (tCons (cV 2) (tCons (tC (.int 4)) (tNil)))))) (gName 8))
  (tSeq (tAsg (cCall g j (fun cls d _ H => E cls d H) (gad g.K "_law_round") (tCons (cV 3) (tNil))) (gName 9))
  (tSeq (tIfS (tNot (cTru g.K (cCall g j (fun cls d _ H => E cls d H) (gad g.K "_law_edge") (tCons (cV 9) (tCons (cV 3) (tCons (cV 5) (tCons (cV 8) (tNil)))))))) (tRet (tC (.bl false))) (tNext))
  (tSeq (tIfS (tAnd (cTest (tOp cGt (cV 7) (tC (.int 0)))) (tNot (cTru g.K (cCall g j (fun cls d _ H => E cls d H) (gad g.K "_law_lower") (tCons (cV 0) (tCons (cV 2) (tCons (cV 3) (tCons (cV 7) (tCons (tLst (tCons (cV 8) (tCons (cV 5) (tNil)))) (tCons (cV 9) (tNil))))))))))) (tRet (tC (.bl false))) (tNext))
  (tRet (cAndV (cCall g j (fun cls d _ H => E cls d H) (gad g.K "_law_higher") (tCons (cV 0) (tCons (cV 2) (tCons (cV 3) (tCons (cV 7) (tCons (tLst (tCons (cV 8) (tCons (cV 5) (tNil)))) (tCons (cV 9) (tNil)))))))) (tOp (cEqN g.K false) (cProp g j (cV 9) "budgets") (cV 3)))))))))))))
theorem dv__law_large {g : Wd} (T : Top g) {j : Nat} {f : Addr} {cdv : Value} {A : Around} {outer : List Env} {s : Shared} {H : Hp} {E : XK} (hr : Room (j + 1) (A.deeper (envOfC "_law_large" (defScope (top 66)) s.heap.objs.size f cdv))) :
    PSs (cxOf (L2.CX g.P g.w) g.P g.w g.K g.mg g.base ["_law_script", "_law_box_here", "_law_more", "_law_pays_here", "_law_found", "_law_many", "_law_turn", "_law_need_here", "_law_wide", "_law_made"] "_law_large" (defScope (top 66)) f cdv A outer s H E) (defBody (top 66)) (rd__law_large g j E) := by
  unfold rd__law_large
  exact (pss_cons (ps_set (i := 3) sc__law_large.nd rfl (Or.inl rfl) (pe_cCall (takes_of rfl rfl rfl rfl) (hr.mono (Nat.le_succ _)) (gf__law_pays T) (by rfl) (pa_cons (cv 0) (pa_cons (cv 1) (pa_cons pe_int pa_nil)))))
  (pss_cons (ps_if (ptc (op_cEq hr.units) (pe_callB (call_cSum rfl) (by rfl) (bl_sum T) bt_sum (pa_cons (cv 3) pa_nil)) pe_int (nomark _)) (pss_one (ps_set (i := 3) sc__law_large.nd rfl (Or.inl rfl) (pe_op (op_cAdd noOw_ok) (pe_lst (pa_cons pe_int pa_nil)) (pe_slice sl_c (cv 3) (po_c pe_int) po_none)))) pss_nil)
  (pss_cons (ps_set (i := 4) sc__law_large.nd rfl (Or.inl rfl) (pe_cCall (takes_of rfl rfl rfl rfl) (hr.mono (Nat.le_succ _)) (gf__law_reaches T) (by rfl) (pa_cons (cv 3) (pa_cons pe_int pa_nil))))
  (pss_cons (ps_set (i := 5) sc__law_large.nd rfl (Or.inl rfl) (pe_op (op_cAdd noOw_ok) pe_int (pe_cCall (takes_of rfl rfl rfl rfl) (hr.mono (Nat.le_succ _)) (gf__law_take T) (by rfl) (pa_cons (cv 0) (pa_cons (cv 2) (pa_cons pe_int pa_nil))))))
  (pss_cons (ps_for (passes_of rfl) rfl (pi_range1 (by rfl) (bl_range T) (pa_cons pe_int pa_nil)) (pg_name sc__law_large.nd rfl (Or.inl rfl)) (pss_one (ps_if (ptc op_cGt (pe_op (op_cAdd noOw_ok) (cv 5) (pe_ix ix_c (cv 4) (pe_op op_cSub (cv 5) pe_int) (fun _ _ => rfl))) pe_int (nomark _)) (pss_one (ps_set (i := 5) sc__law_large.nd rfl (Or.inl rfl) (pe_op op_cSub (cv 5) pe_int))) pss_nil)))
  (pss_cons (ps_set (i := 7) sc__law_large.nd rfl (Or.inl rfl) (pe_ix ix_c (cv 4) (pe_op op_cSub (cv 5) pe_int) (fun _ _ => rfl)))
  (pss_cons (ps_set (i := 8) sc__law_large.nd rfl (Or.inl rfl) (pe_op (op_cAdd noOw_ok) (pe_op (op_cAdd noOw_ok) (cv 5) (cv 7)) (pe_cCall (takes_of rfl rfl rfl rfl) (hr.mono (Nat.le_succ _)) (gf__law_take T) (by rfl) (pa_cons (cv 0) (pa_cons (cv 2) (pa_cons pe_int pa_nil))))))
  (pss_cons (ps_set (i := 9) sc__law_large.nd rfl (Or.inl rfl) (pe_cCall (takes_of rfl rfl rfl rfl) (hr.mono (Nat.le_succ _)) (gf__law_round T) (by rfl) (pa_cons (cv 3) pa_nil)))
  (pss_cons (ps_if (pt_not (ptv (pe_cCall (takes_of rfl rfl rfl rfl) (hr.mono (Nat.le_succ _)) (gf__law_edge T) (by rfl) (pa_cons (cv 9) (pa_cons (cv 3) (pa_cons (cv 5) (pa_cons (cv 8) pa_nil))))))) (pss_one (ps_ret pe_bl)) pss_nil)
  (pss_cons (ps_if (pw_and (ptc op_cGt (cv 7) pe_int (nomark _)) (pw_and1 (pt_not (ptv (pe_cCall (takes_of rfl rfl rfl rfl) (hr.mono (Nat.le_succ _)) (gf__law_lower T) (by rfl) (pa_cons (cv 0) (pa_cons (cv 2) (pa_cons (cv 3) (pa_cons (cv 7) (pa_cons (pe_lst (pa_cons (cv 8) (pa_cons (cv 5) pa_nil))) (pa_cons (cv 9) pa_nil))))))))))).pt (pss_one (ps_ret pe_bl)) pss_nil)
  (pss_one (ps_ret (pe_cAnd (pe_cCall (takes_of rfl rfl rfl rfl) (hr.mono (Nat.le_succ _)) (gf__law_higher T) (by rfl) (pa_cons (cv 0) (pa_cons (cv 2) (pa_cons (cv 3) (pa_cons (cv 7) (pa_cons (pe_lst (pa_cons (cv 8) (pa_cons (cv 5) pa_nil))) (pa_cons (cv 9) pa_nil))))))) (pe_one (pe_cmpR (op_cEq hr.units) (pe_cProp hr (cv 9)) (cv 3) (nomark _))))))))))))))))
theorem ok__law_large {g : Wd} (T : Top g) {fd : FuncData} (F : FunD g.K "_law_large" "_law_large" (defArgs (top 66)) (defBody (top 66)) (defScope (top 66)) [] [] (gad g.K "_law_large") fd) {j : Nat} {sp : Sp} (h : ∀ vs H Q E, sp vs H Q E → vs.length = 3 ∧ rd__law_large g j E { nx := fun _ H1 => Q .non H1, rt := Q } (L2.start ["_law_script", "_law_box_here", "_law_more", "_law_pays_here", "_law_found", "_law_many", "_law_turn", "_law_need_here", "_law_wide", "_law_made"] vs) H) : FnOk g.P g.w g.K g.mg g.base (L2.CX g.P g.w) (j + 2) (gad g.K "_law_large") fd ["_law_script", "_law_box_here", "_law_more"] sp :=
  FunD.ok F sc__law_large (fun vs H Q E hh => (h vs H Q E hh).1) fun cdv A outer s H vs Q E hr hh => ⟨rd__law_large g j E, dv__law_large T hr, (h vs H Q E hh).2⟩
theorem fk__law_large {g : Wd} (T : Top g) (j : Nat) {sp : Sp} (h : ∀ vs H Q E, sp vs H Q E → vs.length = 3 ∧ rd__law_large g j E { nx := fun _ H1 => Q .non H1, rt := Q } (L2.start ["_law_script", "_law_box_here", "_law_more", "_law_pays_here", "_law_found", "_law_many", "_law_turn", "_law_need_here", "_law_wide", "_law_made"] vs) H) : FnG g (j + 2) (gad g.K "_law_large") sp := by
  obtain ⟨fd, F⟩ := fd__law_large T
  exact fnG_of (ok__law_large T F h) (FunD.bindsN F fun _ _ _ _ _ _ us hl => match us, hl with | [_, _, _], _ => rfl)
theorem sc_law : FnScope ["_law_script"] ["_law_script"] (defScope (top 67)) := ⟨rfl, rfl, rfl, by decide +kernel, rfl, by decide +kernel, by decide +kernel⟩
def rd_law (g : Wd) (j : Nat) (E : XK) : TS :=
  tSeq (tIfS (tNot (cTru g.K (cCall g j (fun cls d _ H => E cls d H) (gad g.K "_law_small") (tCons (cV 0) (tCons (cCall g j (fun cls d _ H => E cls d H) (gad g.K "_law_box") (tCons (cV 0) (tCons (tC (.int 0)) (tNil)))) (tNil)))))) (tRet (tC (.bl false))) (tNext))
  (tRet (cCall g j (fun cls d _ H => E cls d H) (gad g.K "_law_large") (tCons (cV 0) (tCons (cCall g j (fun cls d _ H => E cls d H) (gad g.K "_law_box") (tCons (cV 0) (tCons (tC (.int 1)) (tNil)))) (tCons (cCall g j (fun cls d _ H => E cls d H) (gad g.K "_law_box") (tCons (cV 0) (tCons (tC (.int 2)) (tNil)))) (tNil))))))
theorem dv_law {g : Wd} (T : Top g) {j : Nat} {f : Addr} {cdv : Value} {A : Around} {outer : List Env} {s : Shared} {H : Hp} {E : XK} (hr : Room (j + 1) (A.deeper (envOfC "law" (defScope (top 67)) s.heap.objs.size f cdv))) :
    PSs (cxOf (L2.CX g.P g.w) g.P g.w g.K g.mg g.base ["_law_script"] "law" (defScope (top 67)) f cdv A outer s H E) (defBody (top 67)) (rd_law g j E) := by
  unfold rd_law
  exact (pss_cons (ps_if (pt_not (ptv (pe_cCall (takes_of rfl rfl rfl rfl) (hr.mono (Nat.le_succ _)) (gf__law_small T) (by rfl) (pa_cons (cv 0) (pa_cons (pe_cCall (takes_of rfl rfl rfl rfl) (hr.mono (Nat.le_succ _)) (gf__law_box T) (by rfl) (pa_cons (cv 0) (pa_cons pe_int pa_nil))) pa_nil))))) (pss_one (ps_ret pe_bl)) pss_nil)
  (pss_one (ps_ret (pe_cCall (takes_of rfl rfl rfl rfl) (hr.mono (Nat.le_succ _)) (gf__law_large T) (by rfl) (pa_cons (cv 0) (pa_cons (pe_cCall (takes_of rfl rfl rfl rfl) (hr.mono (Nat.le_succ _)) (gf__law_box T) (by rfl) (pa_cons (cv 0) (pa_cons pe_int pa_nil))) (pa_cons (pe_cCall (takes_of rfl rfl rfl rfl) (hr.mono (Nat.le_succ _)) (gf__law_box T) (by rfl) (pa_cons (cv 0) (pa_cons pe_int pa_nil))) pa_nil)))))))
theorem ok_law {g : Wd} (T : Top g) {fd : FuncData} (F : FunD g.K "law" "law" (defArgs (top 67)) (defBody (top 67)) (defScope (top 67)) [] [] (gad g.K "law") fd) {j : Nat} {sp : Sp} (h : ∀ vs H Q E, sp vs H Q E → vs.length = 1 ∧ rd_law g j E { nx := fun _ H1 => Q .non H1, rt := Q } (L2.start ["_law_script"] vs) H) : FnOk g.P g.w g.K g.mg g.base (L2.CX g.P g.w) (j + 2) (gad g.K "law") fd ["_law_script"] sp :=
  FunD.ok F sc_law (fun vs H Q E hh => (h vs H Q E hh).1) fun cdv A outer s H vs Q E hr hh => ⟨rd_law g j E, dv_law T hr, (h vs H Q E hh).2⟩
theorem fk_law {g : Wd} (T : Top g) (j : Nat) {sp : Sp} (h : ∀ vs H Q E, sp vs H Q E → vs.length = 1 ∧ rd_law g j E { nx := fun _ H1 => Q .non H1, rt := Q } (L2.start ["_law_script"] vs) H) : FnG g (j + 2) (gad g.K "law") sp := by
  obtain ⟨fd, F⟩ := fd_law T
  exact fnG_of (ok_law T F h) (FunD.bindsN F fun _ _ _ _ _ _ us hl => match us, hl with | [_], _ => rfl)
end
end Lw
namespace Lw
open PySem PySem.Spec PyProof.Rows L2 Cy
abbrev ii : Str := "InvalidInput"
/-- what an exception's field is -/
def okF (v : V) : Prop := ∃ z : Str, v = .str z ∧ z.length ≤ 100
theorem len_app (a b : Str) : (a ++ b).length = a.length + b.length := by
  first
  | exact Str.length_append a b
  | simp [Str.length]
theorem fn_ii {g : Wd} (T : Top g) : FnG g 1 (mad g.K (gad g.K "InvalidInput") "__init__") (spSup (gad g.K "InvalidInput") "field" okF) := by
  obtain ⟨cc, cdv, S⟩ := su_InvalidInput T
  refine sup_fn (k := 0) (tj := cJoin [tC (.str "invalid value of "), cFmt (cV 1)]) S (ox_InvalidInput T) (na_InvalidInput_field T) ⟨by decide, by decide, by decide⟩ (fun _ _ _ _ _ _ _ _ _ _ => rfl) (fun _ => rfl) (fun L => ⟨_, rfl⟩) (fun L => rfl) (fun L => rfl) (by decide) (by decide)
    (fun A outer s H E => pe_cJoin (.cons pe_str (.cons (pe_cFmt (cv 1)) .nil))) ?_
  intro a v H Q ho k
  obtain ⟨z, rfl, hz⟩ := ho
  refine ⟨by decide +kernel, ⟨by rw [sizeLine_eq]; omega, ?_, k _⟩⟩
  rw [len_app, sizeLine_eq]
  have e : (Str.empty ++ ("invalid value of " : Str)).length = 17 := by decide +kernel
  omega

def Gr (H H' : Hp) : Prop := ∀ a o, H a = some o → H' a = some o
theorem Gr.refl {H : Hp} : Gr H H := fun _ _ h => h
theorem Gr.trans {H H1 H2 : Hp} (a : Gr H H1) (b : Gr H1 H2) : Gr H H2 := fun x o h => b x o (a x o h)
theorem Gr.new {H : Hp} {p : Addr} {o : HO} (h : H p = none) : Gr H (upd H p o) := fun a u e => by rw [upd_ne (ne_of_none e h)]; exact e
/-- InvalidInput(z) is let out -/
def Inp (g : Wd) (E : XK) (H : Hp) (z : Str) : Prop := ∀ H1 d, Gr H H1 → H1 d = some (.xd [("field", .str z)]) → E (.ref (gad g.K "InvalidInput")) (some d) H1
theorem Inp.gr {g : Wd} {E : XK} {H H1 : Hp} {z : Str} (h : Inp g E H z) (k : Gr H H1) : Inp g E H1 z := fun H2 d a b => h H2 d (k.trans a) b
def Ans (g : Wd) (o : Option Str) (H : Hp) (ok : Prop) (E : XK) : Prop := match o with
  | none => ok
  | some z => Inp g E H z
section
variable {g : Wd} {j : Nat} {H : Hp}
theorem raise_ii (T : Top g) {z : Str} {Q : XK} (hj : 2 ≤ j) (hz : z.length ≤ 100) (q : Inp g Q H z) : RaisP g j (gad g.K "InvalidInput") [.str z] H Q :=
  .by (ox_InvalidInput T) (ei_InvalidInput T).1 (ei_InvalidInput T).2 (fn_ii T) hj rfl ⟨z, rfl, hz⟩ fun d hd => q _ d (Gr.new hd) upd_same
def spAtLeast (g : Wd) : Sp := fun vs H Q E => ∃ (v m : Int) (z : Str), vs = [.int v, .int m, .str z] ∧ z.length ≤ 100 ∧ Ans g (if v < m then some z else none) H (Q .non H) E
theorem p_at_least (T : Top g) (hj : 2 ≤ j) : FnG g (j + 2) (gad g.K "at_least") (spAtLeast g) := fk_at_least T j fun vs H Q E ⟨v, m, z, ev, hz, h⟩ => by
  subst ev
  refine ⟨rfl, ite_i (fun c => ?_) (fun c => ?_)⟩
  · rw [if_pos (dt c)] at h
    exact raise_ii T hj hz h
  · rw [if_neg (df c)] at h
    exact h
def spAtMost (g : Wd) : Sp := fun vs H Q E => ∃ (v m : Int) (z : Str), vs = [.int v, .int m, .str z] ∧ z.length ≤ 100 ∧ Ans g (if m < v then some z else none) H (Q .non H) E
theorem p_at_most (T : Top g) (hj : 2 ≤ j) : FnG g (j + 2) (gad g.K "at_most") (spAtMost g) := fk_at_most T j fun vs H Q E ⟨v, m, z, ev, hz, h⟩ => by
  subst ev
  refine ⟨rfl, ite_i (fun c => ?_) (fun c => ?_)⟩
  · rw [if_pos (dt c)] at h
    exact raise_ii T hj hz h
  · rw [if_neg (df c)] at h
    exact h
/-- a whole number: an int -/
def spWhole : Sp := fun vs H Q _ => ∃ (v : Int) (z : Str), vs = [.int v, .str z] ∧ Q .non H
theorem p_whole_number (T : Top g) : FnG g (j + 2) (gad g.K "whole_number") spWhole := fk_whole_number T j fun vs H Q E ⟨v, z, ev, h⟩ => by
  subst ev
  refine ⟨rfl, ?_⟩
  refine IsiP.sc (n := "int") (m := "bool") (b := false) rfl rfl rfl ?_
  refine ite_i (fun c => Bool.noConfusion c) fun _ => ?_
  refine IsiP.sc (n := "int") (m := "int") (b := true) rfl rfl rfl ?_
  exact ite_i (fun c => Bool.noConfusion c) fun _ => h
def okW (z : Str) : Bool := !(Txt.startswith z "0") && decide (Txt.stripChars z "01" = "")
def spGood (g : Wd) : Sp := fun vs H Q E => ∃ z f : Str, vs = [.str z, .str f] ∧ z.length ≤ 100000 ∧ f.length ≤ 100 ∧ Ans g (if okW z = true then none else some f) H (Q .non H) E
theorem p_good_word (T : Top g) (hj : 2 ≤ j) : FnG g (j + 2) (gad g.K "good_word") (spGood g) := fk_good_word T j fun vs H Q E ⟨z, f, ev, hl, hf, h⟩ => by
  subst ev
  refine ⟨rfl, ?_⟩
  have hs : z.length ≤ sizeLine := by rw [sizeLine_eq]; omega
  have key : okW z = false → RaisP g j (gad g.K "InvalidInput") [.str f] H E := fun e => by
    rw [if_neg (by rw [e]; decide)] at h
    exact raise_ii T hj hf h
  refine ite_i (fun c => ?_) (fun c => ?_)
  · exact ite_i (fun _ => key (by unfold okW; rw [c]; rfl)) fun c2 => Bool.noConfusion c2
  · refine ⟨hs, ite_i (fun c2 => ?_) (fun c2 => ?_)⟩
    · refine key ?_
      unfold okW
      rw [c]
      revert c2
      cases decide (Txt.stripChars z "01" = "") <;> simp
    · rw [if_pos (by
        unfold okW
        rw [c]
        revert c2
        cases decide (Txt.stripChars z "01" = "") <;> simp)] at h
      exact h
end
end Lw

namespace Lw
open PySem PySem.Spec PyProof.Rows L2 Cy Tx
theorem okW_eq (z : Str) : okW z = okL (ls z) := by unfold okW okL; rw [starts0, strip01]
theorem Rd.gr {H H' : Hp} {a : Addr} {o : HO} (k : Gr H H') (h : Rd H a o) : Rd H' a o := by
  rcases h with h | ⟨ob, h⟩
  · exact .inl (k _ _ h)
  · exact .inr ⟨ob, k _ _ h⟩
theorem SqT_gr {K : PySem.W.Frag} {H H' : Hp} {a : Addr} {xs : List V} (k : Gr H H') (h : SqT K H a xs) : SqT K H' a xs := by
  rcases h with h | h
  · exact .inl (Rd.gr k h)
  · exact .inr h
theorem SqL_gr {K : PySem.W.Frag} {H H' : Hp} {a : Addr} {xs : List V} (k : Gr H H') (h : SqL K H a xs) : SqL K H' a xs := by
  rcases h with h | h
  · exact .inl (Rd.gr k h)
  · exact .inr h
section
variable {g : Wd} {j : Nat} {H : Hp}
theorem ml {n : Nat} (h : n ≤ 100000) : n ≤ sizeLine := by rw [sizeLine_eq]; omega
def spOnes : Sp := fun vs H Q _ => ∃ z : Str, vs = [.str z] ∧ Q (.int (Txt.count z "1")) H
theorem p_ones (T : Top g) : FnG g 2 (gad g.K "_ones") spOnes := fk__ones T 0 fun vs H Q E ⟨z, ev, h⟩ => by
  subst ev
  exact ⟨rfl, h⟩
def spLiving (g : Wd) : Sp := fun vs H Q E => ∃ z : Str, vs = [.str z] ∧ z.length ≤ 100000 ∧ okW z = true ∧ Q (.int (Txt.count z "1")) H
theorem p_living (T : Top g) : FnG g 6 (gad g.K "living") (spLiving g) := fk_living T 4 fun vs H Q E ⟨z, ev, hz, ok, h⟩ => by
  subst ev
  refine ⟨rfl, CallP.by (p_good_word T (j := 2) (by decide)) (by decide) ⟨z, _, rfl, hz, by decide +kernel, ?_⟩⟩
  rw [if_pos ok]
  exact CallP.by (p_ones T) (by decide) ⟨z, rfl, h⟩
def spTrim : Sp := fun vs H Q _ => ∃ z : Str, vs = [.str z] ∧ z.length ≤ 100000 ∧ Q (.str (Txt.lstripChars z "0")) H
theorem p_trimmed (T : Top g) : FnG g 2 (gad g.K "_trimmed") spTrim := fk__trimmed T 0 fun vs H Q E ⟨z, ev, hz, h⟩ => by
  subst ev
  exact ⟨rfl, ml hz, h⟩
/-- a word, its oldest record carried -/
def carW (z : Str) (n : Int) : Str := if z = "" ∨ n ≤ (z.length : Int) then z else Txt.lstripChars (cutS z (some 1) none ++ "1") "0"
theorem cut_len (z : Str) : (cutS z (some 1) none).length ≤ z.length := by
  unfold cutS
  show (List.take _ _).toArray.size ≤ _
  rw [List.size_toArray, List.length_take, List.length_drop]
  have h : z.length = z.cps.toList.length := ls_len z
  omega
theorem len1 : ("1" : Str).length = 1 := by decide +kernel
def spCarried : Sp := fun vs H Q _ => ∃ (z : Str) (n : Int), vs = [.str z, .int n] ∧ z.length ≤ 90000 ∧ Q (.str (carW z n)) H
theorem p_carried (T : Top g) : FnG g 4 (gad g.K "_carried") spCarried := fk__carried T 2 fun vs H Q E ⟨z, n, ev, hz, h⟩ => by
  subst ev
  have hs : z.length ≤ sizeLine := by rw [sizeLine_eq]; omega
  have rest : ¬(z = "" ∨ n ≤ (z.length : Int)) → Q (.str (Txt.lstripChars (cutS z (some 1) none ++ "1") "0")) H := fun c => by
    unfold carW at h; rw [if_neg c] at h; exact h
  have stop : (z = "" ∨ n ≤ (z.length : Int)) → Q (.str z) H := fun c => by
    unfold carW at h; rw [if_pos c] at h; exact h
  refine ⟨rfl, ite_i (fun c => ?_) (fun c => ?_)⟩
  · refine ite_i (fun _ => stop (.inl ?_)) (fun c2 => Bool.noConfusion c2)
    revert c
    by_cases q : z = "" <;> simp [q]
  · refine ⟨hs, ite_i (fun c2 => stop (.inr (dt c2))) fun c2 => ?_⟩
    have c1 : ¬ z = "" := by
      revert c
      by_cases q : z = "" <;> simp [q]
    refine ⟨hs, ?_, ?_⟩
    · rw [len1, sizeLine_eq]
      have := cut_len z
      omega
    · refine CallP.by (p_trimmed T) (by decide) ⟨_, rfl, ?_, rest ?_⟩
      · rw [len_app, len1]
        have := cut_len z
        omega
      · rintro (q | q)
        · exact c1 q
        · exact df c2 q
def spCarry (g : Wd) : Sp := fun vs H Q E => ∃ (z : Str) (n : Int), vs = [.str z, .int n] ∧ z.length ≤ 90000 ∧ okW z = true ∧ 1 ≤ n ∧ (z.length : Int) ≤ n ∧ Q (.str (carW z n)) H
def spAppended : Sp := fun vs H Q _ => ∃ (z r : Str) (n : Int), vs = [.str z, .int n, .str r] ∧ z.length ≤ 90000 ∧ r.length ≤ 10 ∧ (z.length : Int) < n ∧ Q (.str (Txt.lstripChars (z ++ r) "0")) H
theorem p_appended (T : Top g) : FnG g 4 (gad g.K "_appended") spAppended := fk__appended T 2 fun vs H Q E ⟨z, r, n, ev, hz, hr, hn, h⟩ => by
  subst ev
  have hs : z.length ≤ sizeLine := by rw [sizeLine_eq]; omega
  have hl : (z ++ r).length ≤ 100000 := by rw [len_app]; omega
  refine ⟨rfl, hs, ite_i (fun c => absurd (dt c) (by omega)) (fun c => ?_)⟩
  exact ⟨by rw [len_app] at hl; exact ml hl, CallP.by (p_trimmed T) (by decide) ⟨_, rfl, hl, h⟩⟩

def RoundAt (g : Wd) (H : Hp) (r : Addr) (bs : List Int) : Prop := ∃ dx t, H r = some (.ins (gad g.K "Round") dx [("_budgets", .ref t)]) ∧ H t = some (.tup (bs.map V.int))
theorem RoundAt.gr {H H' : Hp} {r : Addr} {bs : List Int} (k : Gr H H') (h : RoundAt g H r bs) : RoundAt g H' r bs := by
  obtain ⟨dx, t, h1, h2⟩ := h
  exact ⟨dx, t, k _ _ h1, k _ _ h2⟩
theorem lk1 {f : Str} {v : V} : ([(f, v)] : List (Str × V)).lookup f = some v := by simp [List.lookup]
theorem lkB {v : V} : ([(("_budgets" : Str), v)] : List (Str × V)).lookup ("_budgets" : Str) = some v := lk1
theorem nat_mod {a : Int} {n : Nat} (hn : 0 < n) : ∃ k : Nat, k < n ∧ a % (n : Int) = (k : Int) := by
  have h1 : 0 ≤ a % (n : Int) := Int.emod_nonneg _ (by omega)
  have h2 : a % (n : Int) < n := Int.emod_lt_of_pos _ (by omega)
  exact ⟨(a % (n : Int)).toNat, by omega, by omega⟩
/-- the budget at t -/
def bat (bs : List Int) (t : Int) : Int := bs.getD (t % (bs.length : Int)).toNat 0
def spRLen (g : Wd) : Sp := fun vs H Q _ => ∃ (r : Addr) (bs : List Int), vs = [.ref r] ∧ RoundAt g H r bs ∧ Q (.int bs.length) H
theorem p_rlen (T : Top g) : FnG g 2 (mad g.K (gad g.K "Round") "__len__") (spRLen g) := fk_Round_len_ T 0 fun vs H Q E ⟨r, bs, ev, ⟨dx, t, h1, h2⟩, h⟩ => by
  subst ev
  refine ⟨rfl, FldP.by rfl h1 (cl_Round T) (na_Round__budgets T) lkB ?_⟩
  refine LenP.t (.of h2) ?_
  rw [List.length_map]
  exact h
def spAt (g : Wd) : Sp := fun vs H Q E => ∃ (r : Addr) (bs : List Int) (t : Int), vs = [.ref r, .int t] ∧ RoundAt g H r bs ∧ 0 < bs.length ∧ 0 ≤ t ∧ Q (.int (bat bs t)) H
theorem p_at (T : Top g) : FnG g 6 (mad g.K (gad g.K "Round") "at") (spAt g) := fk_Round_at T 4 fun vs H Q E ⟨r, bs, t, ev, ⟨dx, b, h1, h2⟩, hb, ht, h⟩ => by
  subst ev
  refine ⟨rfl, CallP.by (p_at_least T (j := 2) (by decide)) (by decide) ⟨_, _, _, rfl, by decide +kernel, ?_⟩⟩
  rw [if_neg (by omega)]
  refine FldP.by rfl h1 (cl_Round T) (na_Round__budgets T) lkB ?_
  refine FldP.by rfl h1 (cl_Round T) (na_Round__budgets T) lkB ?_
  refine LenP.t (.of h2) ⟨by rw [List.length_map]; omega, ?_⟩
  rw [List.length_map]
  obtain ⟨k, hk, ek⟩ := nat_mod (a := t) hb
  refine IxR'.t (.of h2) (v := .int (bat bs t)) ?_ h
  refine at_of ek ?_
  unfold bat
  rw [ek]
  simp [List.getD, hk]
end
end Lw

namespace Lw
open PySem PySem.Spec PyProof.Rows L2 Cy Tx
section
variable {g : Wd} {j : Nat} {H : Hp}
theorem fk_Round_init_ {g : Wd} (T : Top g) (j : Nat) {sp : Sp} (h : ∀ vs H Q E, sp vs H Q E → rd_Round_init_ g j E { nx := fun _ H1 => Q .non H1, rt := Q } (L2.start ["self", "budgets", "budget"] vs) H) :
    FnG g (j + 2) (mad g.K (gad g.K "Round") "__init__") (fun vs H Q E => ∃ ws rest, vs = ws ++ rest ∧ ws.length = 1 ∧ rest.length ≤ sizeLine ∧ ∀ p, H p = Option.none → sp (ws ++ [V.ref p]) (upd H p (.tup rest)) Q E) := by
  obtain ⟨fd, F⟩ := fd_Round_init_ T
  obtain ⟨oc, od, dV, kV, doc, pm, an, cdv, ct, osl, rfl, lk, hcd, hD, _⟩ := F.ex
  have eD : dV = .none := by
    rcases hD with ⟨_, e⟩ | ⟨e, _⟩
    · exact e
    · exact absurd rfl e
  subst eD
  exact StX.fn_star (ps := ["self"]) lk hcd sc_Round_init_ StX.cxUp (fun us rest hl => match us, rest, hl with
    | [_], [], _ => rfl
    | [_], _ :: _, _ => rfl) fun A outer s H vs Q E hr hh => ⟨rd_Round_init_ g j E, dv_Round_init_ T hr, h vs H Q E hh⟩
/-- its promise: self new, the budgets whole and not negative, 1 to 12 of them -/
def spRInit (g : Wd) : Sp := fun vs H Q E => ∃ (x dx t : Addr) (bs : List Int), vs = [.ref x, .ref t] ∧ H x = some (.ins (gad g.K "Round") dx []) ∧ H t = some (.tup (bs.map V.int)) ∧ 1 ≤ bs.length ∧ bs.length ≤ 12 ∧ (∀ b ∈ bs, 0 ≤ b) ∧
  Q .non (upd H x (.ins (gad g.K "Round") dx [("_budgets", .ref t)]))
theorem p_rinit (T : Top g) : FnG g 8 (mad g.K (gad g.K "Round") "__init__") (fun vs H Q E => ∃ ws rest, vs = ws ++ rest ∧ ws.length = 1 ∧ rest.length ≤ sizeLine ∧ ∀ p, H p = Option.none → spRInit g (ws ++ [V.ref p]) (upd H p (.tup rest)) Q E) :=
  fk_Round_init_ T 6 fun vs H Q E ⟨x, dx, t, bs, ev, hx, ht, b1, b2, bp, h⟩ => by
    subst ev
    refine LenP.t (.of ht) ?_
    rw [List.length_map]
    refine ite_i (fun c => ?_) (fun c => absurd b1 (by have := df c; omega))
    refine GvP.by (gv_Round T) ?_
    obtain ⟨u, r, k⟩ := cvl_Round_MOST T
    refine CvP.by rfl r k ?_
    refine ite_i (fun c2 => absurd b2 (by
      revert c2
      by_cases q : (bs.length : Int) ≤ 12
      · simp [q]
      · intro _; omega)) fun _ => ?_
    refine SeqP.t rfl (.of ht) ?_
    refine for_tup (xs := bs.map V.int) (fun i σ H' => ∃ o, H' = H ∧ σ = [some (.ref x), some (.ref t), o]) ⟨none, rfl, rfl⟩ (fun i σ H' hi ⟨_, e, _⟩ => by rw [e]; exact .of ht) ?_ ?_
    · rintro i v σ H' hv ⟨o, rfl, rfl⟩
      rw [List.getElem?_map] at hv
      cases q : bs[i]? with
      | none => rw [q] at hv; cases hv
      | some b =>
        rw [q] at hv
        cases hv
        have hb := bp b (List.mem_of_getElem? q)
        refine CallP.by (p_whole_number T (j := 0)) (by decide) ⟨b, _, rfl, ?_⟩
        refine CallP.by (p_at_least T (j := 2) (by decide)) (by decide) ⟨_, _, _, rfl, by decide +kernel, ?_⟩
        rw [if_neg (by omega)]
        exact ⟨_, rfl, rfl⟩
    · rintro σ H' ⟨o, rfl, rfl⟩
      refine TupP.t (.of ht) ?_
      exact SetP.by rfl hx (cl_Round T) (na_Round__budgets T) (by decide) h
/-- Round(b, ..) -/
theorem mk_round (T : Top g) {bs : List Int} {Q : VK} {E : XK} (hj : 9 ≤ j) (b1 : 1 ≤ bs.length) (b2 : bs.length ≤ 12) (bp : ∀ b ∈ bs, 0 ≤ b) (h : ∀ r H', Gr H H' → H r = none → RoundAt g H' r bs → Q (.ref r) H') : MakeP g j (gad g.K "Round") (bs.map V.int) H Q E := by
  refine MakeP.by (mk_Round T) (p_rinit T) hj fun x dx hx hdx hne => ⟨[.ref x], bs.map V.int, rfl, rfl, by rw [List.length_map, sizeLine_eq]; omega, fun p hp => ?_⟩
  have px : p ≠ x := fun e => by rw [e, upd_same] at hp; cases hp
  have hp1 : upd H dx (.own x) p = none := by rw [upd_ne px] at hp; exact hp
  have pdx : p ≠ dx := fun e => by rw [e, upd_same] at hp1; cases hp1
  have hp0 : H p = none := by rw [upd_ne pdx] at hp1; exact hp1
  have hx1 : upd H dx (.own x) x = none := by rw [upd_ne (Ne.symm hne)]; exact hx
  refine ⟨x, dx, p, bs, rfl, by rw [upd_ne (Ne.symm px), upd_same], upd_same, b1, b2, bp, rfl, ?_⟩
  refine h x _ (fun a o e => ?_) hx ⟨dx, p, upd_same, by rw [upd_ne px, upd_same]⟩
  rw [upd_ne (ne_of_none e hx), upd_ne (ne_of_none e hp0), upd_ne (ne_of_none e hx), upd_ne (ne_of_none e hdx)]
  exact e
/-- r + q -/
def spRAdd (g : Wd) : Sp := fun vs H Q _ => ∃ (r q : Addr) (bs cs : List Int), vs = [.ref r, .ref q] ∧ RoundAt g H r bs ∧ RoundAt g H q cs ∧ bs ≠ [] ∧ cs ≠ [] ∧ bs.length + cs.length ≤ 12 ∧ (∀ b ∈ bs ++ cs, 0 ≤ b) ∧ ∀ s H', Gr H H' → H s = none → RoundAt g H' s (bs ++ cs) → Q (.ref s) H'
theorem p_radd (T : Top g) : FnG g 11 (mad g.K (gad g.K "Round") "__add__") (spRAdd g) := fk_Round_add_ T 9 fun vs H Q E ⟨r, q, bs, cs, ev, ⟨dx, b, h1, h2⟩, ⟨dx', c, h3, h4⟩, n1, n2, hl, hp, h⟩ => by
  subst ev
  refine ⟨rfl, ?_⟩
  refine GvP.by (gv_Round T) ?_
  refine IsiP.own (b := true) (ty_Round T h3) rfl (kt_Round_Round T) ?_
  refine ite_i (fun z => Bool.noConfusion z) fun _ => ?_
  refine FldP.by rfl h1 (cl_Round T) (na_Round__budgets T) lkB ?_
  refine FldP.by rfl h3 (cl_Round T) (na_Round__budgets T) lkB ?_
  refine AddR.tup _ _ (.of h2) (.of h4) (by simpa using n1) (by simpa using n2) (by rw [List.length_map, List.length_map, sizeLine_eq]; omega) fun s hs => ?_
  rw [← List.map_append]
  refine StarP.t rfl (.of upd_same) ?_
  have l1 : 1 ≤ (bs ++ cs).length := by
    rw [List.length_append]
    have := List.length_pos_iff.mpr n1
    omega
  refine mk_round T (by decide) l1 (by rw [List.length_append]; exact hl) hp fun s' H' k hs' ra => h s' H' ((Gr.new hs).trans k) ?_ ra
  have : s' ≠ s := fun e => by rw [e, upd_same] at hs'; cases hs'
  rw [upd_ne this] at hs'
  exact hs'
def spRBud (g : Wd) : Sp := fun vs H Q _ => ∃ (r : Addr) (bs : List Int), vs = [.ref r] ∧ RoundAt g H r bs ∧ ∀ p, H p = none → Q (.ref p) (upd H p (.lst (bs.map V.int)))
theorem p_rbud (T : Top g) : FnG g 2 (pgt g.K "Round" "budgets") (spRBud g) := fk_Round_budgets T 0 fun vs H Q E ⟨r, bs, ev, ⟨dx, t, h1, h2⟩, h⟩ => by
  subst ev
  refine ⟨rfl, FldP.by rfl h1 (cl_Round T) (na_Round__budgets T) lkB ?_⟩
  exact LstP.t (.of h2) h
end
end Lw

namespace Lw
open PySem PySem.Spec PyProof.Rows L2 Cy Tx
section
variable {g : Wd} {j : Nat} {H : Hp}
/-- what a keeper's choose refuses -/
def moment (z : Str) (p ph : Int) : Option Str := if okW z = false then some "word" else if p < 1 then some "places" else if ph < 0 then some "phase" else if p < (z.length : Int) then some "places" else none
def spMoment (g : Wd) : Sp := fun vs H Q E => ∃ (z : Str) (p ph : Int), vs = [.str z, .int p, .int ph] ∧ z.length ≤ 90000 ∧ Ans g (moment z p ph) H (Q .non H) E
theorem p_moment (T : Top g) : FnG g 6 (gad g.K "_check_moment") (spMoment g) := fk__check_moment T 4 fun vs H Q E ⟨z, p, ph, ev, hz, h⟩ => by
  subst ev
  refine ⟨rfl, CallP.by (p_good_word T (j := 2) (by decide)) (by decide) ⟨z, _, rfl, by omega, by decide +kernel, ?_⟩⟩
  unfold moment at h
  by_cases c1 : okW z = false
  · rw [if_pos c1] at h
    rw [if_neg (by rw [c1]; decide)]
    exact h
  have c1' : okW z = true := by simpa using c1
  rw [if_neg c1] at h
  rw [if_pos c1']
  refine CallP.by (p_at_least T (j := 2) (by decide)) (by decide) ⟨_, _, _, rfl, by decide +kernel, ?_⟩
  by_cases c2 : p < 1
  · rw [if_pos c2] at h
    rw [if_pos c2]
    exact h
  rw [if_neg c2] at h
  rw [if_neg c2]
  refine CallP.by (p_at_least T (j := 2) (by decide)) (by decide) ⟨_, _, _, rfl, by decide +kernel, ?_⟩
  by_cases c3 : ph < 0
  · rw [if_pos c3] at h
    rw [if_pos c3]
    exact h
  rw [if_neg c3] at h
  rw [if_neg c3]
  refine ⟨ml (by omega), CallP.by (p_at_least T (j := 2) (by decide)) (by decide) ⟨_, _, _, rfl, by decide +kernel, ?_⟩⟩
  by_cases c4 : p < (z.length : Int)
  · rw [if_pos c4] at h
    rw [if_pos c4]
    exact h
  rw [if_neg c4] at h
  rw [if_neg c4]
  exact h
/-- the most that may be carried -/
def mostA (z : Str) (p : Int) (bs : List Int) (ph : Int) : Int := if (z.length : Int) = p then 0 else min (bat bs ph) (Txt.count z "1")
def spMost (g : Wd) : Sp := fun vs H Q _ => ∃ (z : Str) (p ph : Int) (r : Addr) (bs : List Int), vs = [.str z, .int p, .ref r, .int ph] ∧ z.length ≤ 90000 ∧ okW z = true ∧ RoundAt g H r bs ∧ 0 < bs.length ∧ 0 ≤ ph ∧ Q (.int (mostA z p bs ph)) H
theorem ra_ins {r : Addr} {bs : List Int} (h : RoundAt g H r bs) : ∃ dx t, H r = some (.ins (gad g.K "Round") dx [("_budgets", .ref t)]) := by
  obtain ⟨dx, t, h1, _⟩ := h
  exact ⟨dx, t, h1⟩
theorem lkn {f f' : Str} {v : V} (h : (f' == f) = false) : ([(f, v)] : List (Str × V)).lookup f' = none := by simp [List.lookup, h]
theorem p_most (T : Top g) : FnG g 8 (gad g.K "_most_allowed") (spMost g) := fk__most_allowed T 6 fun vs H Q E ⟨z, p, ph, r, bs, ev, hz, ok, hr, hb, hp, h⟩ => by
  subst ev
  refine ⟨rfl, ml (by omega), ite_i (fun c => ?_) (fun c => ?_)⟩
  · unfold mostA at h
    rw [if_pos (by
      revert c
      by_cases q : (z.length : Int) = p <;> simp [q])] at h
    exact h
  · have q : ¬ (z.length : Int) = p := by
      revert c
      by_cases q : (z.length : Int) = p <;> simp [q]
    unfold mostA at h
    rw [if_neg q] at h
    obtain ⟨dx, t, h1⟩ := ra_ins hr
    refine MethP.own rfl h1 (cl_Round T) (mt_Round_at T) (lkn (by decide)) ?_
    refine CallP.by (p_at T) (by decide) ⟨r, bs, ph, rfl, hr, hb, hp, ?_⟩
    exact CallP.by (p_living T) (by decide) ⟨z, rfl, by omega, ok, h⟩
theorem moment_none {z : Str} {p ph : Int} (h : moment z p ph = none) : okW z = true ∧ 1 ≤ p ∧ 0 ≤ ph ∧ (z.length : Int) ≤ p := by
  unfold moment at h
  split at h
  · cases h
  split at h
  · cases h
  split at h
  · cases h
  split at h
  · cases h
  rename_i a b c d
  exact ⟨by simpa using a, by omega, by omega, by omega⟩
/-- choose(word, places, budgets, phase): refused, or R of the count -/
def spCh (g : Wd) (K : Addr → Hp → Prop) (R : Addr → Str → Int → List Int → Int → Hp → VK → Prop) : Sp := fun vs H Q E => ∃ (k : Addr) (z : Str) (p ph : Int) (r : Addr) (bs : List Int), vs = [.ref k, .str z, .int p, .ref r, .int ph] ∧ z.length ≤ 90000 ∧ K k H ∧ RoundAt g H r bs ∧ 0 < bs.length ∧
  Ans g (moment z p ph) H (R k z p bs ph H Q) E
def rRest : Addr → Str → Int → List Int → Int → Hp → VK → Prop := fun _ _ _ _ _ H Q => Q (.int 0) H
def rGreedy : Addr → Str → Int → List Int → Int → Hp → VK → Prop := fun _ z p bs ph H Q => Q (.int (mostA z p bs ph)) H
theorem ans_bind {o : Option Str} {ok ok' : Prop} {E : XK} (h : Ans g o H ok E) (k : o = none → ok → ok') : Ans g o H ok' E := by
  cases o with
  | none => exact k rfl h
  | some z => exact h
theorem p_kch (T : Top g) : FnG g 8 (mad g.K (gad g.K "Keeper") "choose") (spCh g (fun _ _ => True) rRest) := fk_Keeper_choose T 6 fun vs H Q E ⟨k, z, p, ph, r, bs, ev, hz, hk, hr, hb, h⟩ => by
  subst ev
  exact ⟨rfl, CallP.by (p_moment T) (by decide) ⟨z, p, ph, rfl, hz, ans_bind h fun _ q => q⟩⟩
/-- a keeper with one field -/
def OneF (g : Wd) (C f : Str) (m : Int) (k : Addr) (H : Hp) : Prop := ∃ dx, H k = some (.ins (gad g.K C) dx [(f, .int m)])
theorem OneF.gr {C f : Str} {m : Int} {k : Addr} {H H' : Hp} (q : Gr H H') (h : OneF g C f m k H) : OneF g C f m k H' := by
  obtain ⟨dx, h⟩ := h
  exact ⟨dx, q _ _ h⟩
def rLazy (m : Int) : Addr → Str → Int → List Int → Int → Hp → VK → Prop := fun _ z p bs ph H Q => Q (.int (if m < p - (z.length : Int) then 0 else mostA z p bs ph)) H
theorem p_lch (T : Top g) (m : Int) : FnG g 10 (mad g.K (gad g.K "Lazy") "choose") (spCh g (OneF g "Lazy" "_mark" m) (rLazy m)) := fk_Lazy_choose T 8 fun vs H Q E ⟨k, z, p, ph, r, bs, ev, hz, ⟨dx, hk⟩, hr, hb, h⟩ => by
  subst ev
  refine ⟨rfl, CallP.by (p_moment T) (by decide) ⟨z, p, ph, rfl, hz, ans_bind h fun e q => ?_⟩⟩
  obtain ⟨m1, m2, m3, m4⟩ := moment_none e
  refine ⟨ml (by omega), FldP.by rfl hk (cl_Lazy T) (na_Lazy__mark T) lk1 ?_⟩
  unfold rLazy at q
  refine ite_i (fun c => ?_) (fun c => ?_)
  · rw [if_pos (dt c)] at q
    exact q
  · rw [if_neg (df c)] at q
    exact CallP.by (p_most T) (by decide) ⟨z, p, ph, r, bs, rfl, hz, m1, hr, hb, m3, q⟩
/-- the constructor of a keeper with one field; set_mark -/
def spOne (g : Wd) (C f fn : Str) (lo : Int) : Sp := fun vs H Q E => ∃ (k dx : Addr) (m : Int), vs = [.ref k, .int m] ∧ H k = some (.ins (gad g.K C) dx []) ∧ Ans g (if m < lo then some fn else none) H (Q .non (upd H k (.ins (gad g.K C) dx [(f, .int m)]))) E
theorem p_linit (T : Top g) : FnG g 6 (mad g.K (gad g.K "Lazy") "__init__") (spOne g "Lazy" "_mark" "mark" 0) := fk_Lazy_init_ T 4 fun vs H Q E ⟨k, dx, m, ev, hk, h⟩ => by
  subst ev
  refine ⟨rfl, CallP.by (p_at_least T (j := 2) (by decide)) (by decide) ⟨_, _, _, rfl, by decide +kernel, ans_bind h fun _ q => ?_⟩⟩
  exact SetP.by rfl hk (cl_Lazy T) (na_Lazy__mark T) (by decide) q
def spSetM (g : Wd) : Sp := fun vs H Q E => ∃ (k dx : Addr) (m n : Int), vs = [.ref k, .int m] ∧ H k = some (.ins (gad g.K "Lazy") dx [("_mark", .int n)]) ∧ Ans g (if m < 0 then some "mark" else none) H (Q .non (upd H k (.ins (gad g.K "Lazy") dx [("_mark", .int m)]))) E
theorem p_setm (T : Top g) : FnG g 6 (mad g.K (gad g.K "Lazy") "set_mark") (spSetM g) := fk_Lazy_set_mark T 4 fun vs H Q E ⟨k, dx, m, n, ev, hk, h⟩ => by
  subst ev
  refine ⟨rfl, CallP.by (p_at_least T (j := 2) (by decide)) (by decide) ⟨_, _, _, rfl, by decide +kernel, ans_bind h fun _ q => ?_⟩⟩
  exact SetP.by rfl hk (cl_Lazy T) (na_Lazy__mark T) (show 1 < 1000 by decide) q
def spFld1 (g : Wd) (C f : Str) : Sp := fun vs H Q E => ∃ (k : Addr) (m : Int), vs = [.ref k] ∧ OneF g C f m k H ∧ Q (.int m) H
theorem p_mark (T : Top g) : FnG g 2 (pgt g.K "Lazy" "mark") (spFld1 g "Lazy" "_mark") := fk_Lazy_mark T 0 fun vs H Q E ⟨k, m, ev, ⟨dx, hk⟩, h⟩ => by
  subst ev
  exact ⟨rfl, FldP.by rfl hk (cl_Lazy T) (na_Lazy__mark T) lk1 h⟩
/-- the labels -/
def spLab (K : Addr → Hp → Prop) (z : Str) : Sp := fun vs H Q E => ∃ k, vs = [.ref k] ∧ K k H ∧ Q (.str z) H
theorem e_app (z : Str) : Str.empty ++ z = z := by
  refine ls_ext ?_
  rw [ls_app]
  rfl
theorem int_len {m : Int} (h : m.natAbs.log2 < 1920) : (Str.ofString (toString m)).length ≤ 1921 := int_text_len_1921 h
end
end Lw

namespace Lw
open PySem PySem.Spec PyProof.Rows L2 Cy Tx
section
variable {g : Wd} {j : Nat} {H : Hp}
theorem gr_upd {H H' : Hp} {l : Addr} {o : HO} (k : Gr H H') (h : H l = none) : Gr H (upd H' l o) := fun a u e => by rw [upd_ne (ne_of_none e h)]; exact k _ _ e
end
end Lw

namespace Lw
open PySem PySem.Spec PyProof.Rows L2 Cy Tx
section
variable {g : Wd} {j : Nat} {H : Hp}
/-- the budgets of a round -/
structure BsOk (bs : List Int) : Prop where
  l1 : 1 ≤ bs.length
  l2 : bs.length ≤ 12
  nn : ∀ b ∈ bs, 0 ≤ b
  up : ∀ b ∈ bs, b ≤ 10 ^ 30
theorem sum_nn : ∀ {l : List Int}, (∀ b ∈ l, 0 ≤ b) → 0 ≤ l.sum
  | [], _ => by simp
  | a :: r, h => by
    have h1 := h a (List.mem_cons_self ..)
    have h2 := sum_nn (l := r) fun b hb => h b (List.mem_cons_of_mem _ hb)
    rw [List.sum_cons]; omega
theorem sum_up {M : Int} : ∀ {l : List Int}, (∀ b ∈ l, b ≤ M) → l.sum ≤ l.length * M
  | [], _ => by simp
  | a :: r, h => by
    have h1 := h a (List.mem_cons_self ..)
    have h2 := sum_up (l := r) fun b hb => h b (List.mem_cons_of_mem _ hb)
    rw [List.sum_cons, List.length_cons]
    have e : ((r.length + 1 : Nat) : Int) * M = (r.length : Int) * M + M := by
      rw [Int.natCast_add, Int.add_mul]; simp
    rw [e]; omega
theorem log2_lt {n k : Nat} (hk : 0 < k) (h : n < 2 ^ k) : n.log2 < k := by
  by_cases e : n = 0
  · subst e; simp; exact hk
  · exact (Nat.log2_lt e).mpr h
theorem bs_sum {bs : List Int} (b : BsOk bs) : 0 ≤ bs.sum ∧ bs.sum ≤ 12 * 10 ^ 30 := by
  refine ⟨sum_nn b.nn, ?_⟩
  have h := sum_up b.up
  have h2 : (bs.length : Int) ≤ 12 := by have := b.l2; omega
  have h3 : (bs.length : Int) * 10 ^ 30 ≤ 12 * 10 ^ 30 := Int.mul_le_mul_of_nonneg_right h2 (by decide)
  omega
end
end Lw

namespace Lw
open PySem PySem.Spec PyProof.Rows L2 Cy Tx
section
variable {g : Wd} {j : Nat} {H : Hp}
/-- a standing that passes -/
structure StOk (z : Str) (p l ph : Int) : Prop where
  ok : okW z = true
  hz : z.length ≤ 90000
  h1 : 1 ≤ p
  h2 : 1 ≤ l
  h3 : 0 ≤ ph
  h4 : (z.length : Int) ≤ p
  h5 : Txt.count z "1" ≤ l
  h6 : l ≤ p
def spSt : Sp := fun vs H Q _ => ∃ (z : Str) (p l ph : Int), vs = [.str z, .int p, .int l, .int ph] ∧ StOk z p l ph ∧ Q .non H
def spCnt : Sp := fun vs H Q _ => ∃ (p : Int) (b : Bool), vs = [.int p, .bl b] ∧ Q (.int (if b = true then p - 1 else p)) H
/-- None or a number -/
def OptI (v : V) : Prop := v = .non ∨ ∃ i : Int, v = .int i
end
end Lw

namespace Lw
open PySem PySem.Spec PyProof.Rows L2 Cy Tx
section
variable {g : Wd} {j : Nat} {H : Hp}
/-- f(word, places, limit, budgets, phase, late=late) -/
def spK6 (sp : Sp) : SpK := fun vs zs H Q E => ∃ a b c d e l : V, vs = [a, b, c, d, e] ∧ zs = [l] ∧ sp [a, b, c, d, e, l] H Q E
theorem kw6 {x : Str} {params : Arguments} {body : List Stmt} {scope : Scope} {f : Addr} {fd : FuncData} {k : Nat} {sp : Sp} (F : FunD g.K x x params body scope [.int 0] [("late", .bl false)] f fd) (O : FnOk g.P g.w g.K g.mg g.base (L2.CX g.P g.w) k f fd ["word", "places", "limit", "budgets", "phase", "late"] sp)
    (h : ∀ (T D : Addr) (doc pm : Value) (an : Option Addr) (cdv ct : Value) (us its mv ws : List Value), us.length = 5 → its.length = 1 → mv.length = 0 → ws.length = 1 →
      ∃ k, bindArgs (PySem.W.fnOf x x params body scope (.ref T) (.ref D) doc pm an cdv ct) ⟨us, [("late" : Str)].zip ws⟩ = seqItems? (.ref T) >>= k ∧ KwChain D ((([] : List (Str × V)).map (·.1)).zip mv) (k (some its.toArray)) ((["word", "places", "limit", "budgets", "phase", "late"] : List Str).zip (us ++ ws))) :
    FnK g k f ["late"] (spK6 sp) := by
  obtain ⟨its, mv, hb⟩ := FunD.kbinds (ps := ["word", "places", "limit", "budgets", "phase", "late"]) F 5 ["late"] [] (fun us its mv ws => us ++ ws) (by intro e; cases e) (by intro e; cases e) (fun q hq => by cases hq) (fun r1 _ _ r4 => r1.append r4) h
  intro A outer s H us ws vs zs Q E hr e0 r rz hh
  obtain ⟨a, b, c, d, e, l, rfl, rfl, hs⟩ := hh
  exact FnK.of O hb A outer s H us ws _ _ Q E hr e0 r rz ⟨rfl, rfl, hs⟩
end
end Lw

namespace Lw
open PySem PySem.Spec PyProof.Rows L2 Cy Tx
theorem dw_head : ∀ l : List Nat, ((l.dropWhile (· == 48)).head? == some 48) = false
  | [] => rfl
  | a :: r => by
    cases h : (a == 48) with
    | true => simp only [List.dropWhile, h]; exact dw_head r
    | false =>
      simp only [List.dropWhile, h, List.head?]
      simpa using h
theorem dw_mem {l : List Nat} {c : Nat} (h : c ∈ l.dropWhile (· == 48)) : c ∈ l := (List.dropWhile_sublist _).subset h
theorem dw_ok {l : List Nat} (h : l.all Bit = true) : okL (l.dropWhile (· == 48)) = true := by
  unfold okL
  rw [dw_head]
  have : (l.dropWhile (· == 48)).all Bit = true := List.all_eq_true.mpr fun c hc => List.all_eq_true.mp h c (dw_mem hc)
  rw [this]
  rfl
theorem ok_all {z : Str} (h : okW z = true) : (ls z).all Bit = true := by
  rw [okW_eq] at h
  unfold okL at h
  exact (Bool.and_eq_true_iff.mp h).2
theorem ls_one : ls ("1" : Str) = [49] := by decide +kernel
theorem cut_ls (z : Str) : ls (cutS z (some 1) none) = (ls z).drop 1 := by
  have h : z.length = z.cps.toList.length := ls_len z
  unfold cutS
  show (List.take _ (List.drop _ z.cps.toList)).toArray.toList = z.cps.toList.drop 1
  rw [show (1 : Int) = ((1 : Nat) : Int) from rfl, HT.sIx_nat, HT.sIx_none, h]
  simp only [List.toList_toArray]
  by_cases q : 1 ≤ z.cps.toList.length
  · rw [Nat.min_eq_left q]
    exact List.take_of_length_le (by rw [List.length_drop]; exact Nat.le_refl _)
  · have e : z.cps.toList = [] := List.eq_nil_of_length_eq_zero (by omega)
    rw [e]; rfl
theorem apd_ok {z : Str} (h : okW z = true) : okW (Txt.lstripChars (z ++ "1") "0") = true ∧ (Txt.lstripChars (z ++ "1") "0").length ≤ z.length + 1 ∧ Txt.count (Txt.lstripChars (z ++ "1") "0") "1" ≤ Txt.count z "1" + 1 := by
  have e : ls (Txt.lstripChars (z ++ "1") "0") = (ls z ++ [49]).dropWhile (· == 48) := by rw [lstrip0, ls_app, ls_one]
  refine ⟨?_, ?_, ?_⟩
  · rw [okW_eq, e]
    refine dw_ok ?_
    rw [List.all_append, ok_all h]
    rfl
  · rw [ls_len, e]
    have := (List.dropWhile_sublist (l := ls z ++ [49]) (· == 48)).length_le
    rw [List.length_append, List.length_singleton] at this
    rw [ls_len z]
    exact this
  · rw [count1, count1, e]
    have := (List.dropWhile_sublist (l := ls z ++ [49]) (· == 48)).count_le 49
    rw [List.count_append] at this
    have e2 : List.count 49 [49] = 1 := by decide
    omega
theorem car_ok {z : Str} {n : Int} (h : okW z = true) : okW (carW z n) = true ∧ (carW z n).length ≤ z.length := by
  unfold carW
  split
  · exact ⟨h, Nat.le_refl _⟩
  · rename_i c
    have e : ls (Txt.lstripChars (cutS z (some 1) none ++ "1") "0") = ((ls z).drop 1 ++ [49]).dropWhile (· == 48) := by rw [lstrip0, ls_app, ls_one, cut_ls]
    refine ⟨?_, ?_⟩
    · rw [okW_eq, e]
      refine dw_ok ?_
      rw [List.all_append]
      have : ((ls z).drop 1).all Bit = true := List.all_eq_true.mpr fun c hc => List.all_eq_true.mp (ok_all h) c (List.mem_of_mem_drop hc)
      rw [this]
      rfl
    · rw [ls_len, e]
      have := (List.dropWhile_sublist (l := (ls z).drop 1 ++ [49]) (· == 48)).length_le
      rw [List.length_append, List.length_singleton, List.length_drop] at this
      rw [ls_len z]
      have hn : (ls z) ≠ [] := fun e => c (.inl (ls_ext (e.trans (by decide +kernel))))
      have := List.length_pos_iff.mpr hn
      omega
section
variable {g : Wd} {j : Nat} {H : Hp}
def spApr : Sp := fun vs H Q _ => ∃ (z : Str) (n : Int), vs = [.str z, .int n] ∧ z.length ≤ 80000 ∧ okW z = true ∧ 1 ≤ n ∧ (z.length : Int) < n ∧ ∀ H', Gr H H' → Q (.str (Txt.lstripChars (z ++ "1") "0")) H'
theorem p_apr (T : Top g) : FnG g 6 (gad g.K "append_record") spApr := by
  obtain ⟨fd, F⟩ := fd_append_record T
  have F2 : FnOk g.P g.w g.K g.mg g.base (L2.CX g.P g.w) 6 (gad g.K "append_record") fd ["word", "places", "record"] (fun vs H Q E => ∃ (z : Str) (n : Int) (r : Str), vs = [.str z, .int n, .str r] ∧ r = "1" ∧ z.length ≤ 80000 ∧ okW z = true ∧ 1 ≤ n ∧ (z.length : Int) < n ∧ ∀ H', Gr H H' → Q (.str (Txt.lstripChars (z ++ "1") "0")) H') :=
    ok_append_record T F (j := 4) fun vs H Q E ⟨z, n, r, ev, er, hz, ok, h1, h2, h⟩ => by
      subst ev
      refine ⟨rfl, CallP.by (p_good_word T (j := 2) (by decide)) (by decide) ⟨z, _, rfl, by omega, by decide +kernel, ?_⟩⟩
      rw [if_pos ok]
      refine CallP.by (p_at_least T (j := 2) (by decide)) (by decide) ⟨_, _, _, rfl, by decide +kernel, ?_⟩
      rw [if_neg (by omega)]
      refine ⟨by decide, fun t ht => InR.sq _ (.inr (.of upd_same)) rfl rfl ?_⟩
      refine ite_i (fun c => ?_) (fun c => ?_)
      · exact absurd c (by rw [er]; decide +kernel)
      refine ⟨ml (by omega), CallP.by (p_at_least T (j := 2) (by decide)) (by decide) ⟨_, _, _, rfl, by decide +kernel, ?_⟩⟩
      rw [if_neg (by omega)]
      exact CallP.by (p_appended T) (by decide) ⟨z, r, n, rfl, by omega, by rw [er]; decide +kernel, h2, by rw [er]; exact h _ (Gr.new ht)⟩
  obtain ⟨ds, hv, hb⟩ := FunD.binds1 (ps := ["word", "places", "record"]) F 2 0 (by intro e; cases e) rfl fun Tt kV doc pm an cdv ct us its hu hi => match us, its, hu, hi with
    | [_, _], [_], _, _ => ⟨_, rfl, rfl⟩
  refine (F2.raw hb hv).imp fun vs H Q E ⟨z, n, ev, hz, ok, h1, h2, h⟩ => ?_
  subst ev
  exact ⟨z, n, "1", rfl, rfl, hz, ok, h1, h2, h⟩
end
end Lw

namespace Lw
open PySem PySem.Spec PyProof.Rows L2 Cy Tx
/-- all but b stands as it was -/
def Gx (b : Addr) (H H' : Hp) : Prop := ∀ a o, a ≠ b → H a = some o → H' a = some o
theorem Gx.refl {b : Addr} {H : Hp} : Gx b H H := fun _ _ _ h => h
theorem Gx.trans {b : Addr} {H H1 H2 : Hp} (k : Gx b H H1) (l : Gx b H1 H2) : Gx b H H2 := fun a o n e => l a o n (k a o n e)
theorem Gx.gr {b : Addr} {H H1 : Hp} (k : Gr H H1) : Gx b H H1 := fun a o _ e => k a o e
theorem Gx.upd {b : Addr} {H : Hp} {o : HO} : Gx b H (upd H b o) := fun a u n e => by rw [upd_ne n]; exact e
/-- the draws' box -/
def BoxAt (H : Hp) (b : Addr) (n : Int) : Prop := ∃ b0 b1 b2 b3 : Int, H b = some (.lst [.int b0, .int b1, .int b2, .int b3]) ∧ 0 ≤ b0 ∧ 0 ≤ b1 ∧ b1 < 2147483647 ∧ 0 ≤ b2 ∧ b2 ≤ n ∧ 0 ≤ b3
theorem BoxAt.mono {H : Hp} {b : Addr} {n m : Int} (h : BoxAt H b n) (k : n ≤ m) : BoxAt H b m := by
  obtain ⟨b0, b1, b2, b3, h0, h1, h2, h3, h4, h5, h6⟩ := h
  exact ⟨b0, b1, b2, b3, h0, h1, h2, h3, h4, by omega, h6⟩
theorem BoxAt.gr {H H' : Hp} {b : Addr} {n : Int} (k : Gr H H') (h : BoxAt H b n) : BoxAt H' b n := by
  obtain ⟨b0, b1, b2, b3, h0, h'⟩ := h
  exact ⟨b0, b1, b2, b3, k _ _ h0, h'⟩
/-- the script, not the box -/
def KL (K : PySem.W.Frag) (a : Addr) (ns : List Int) : Prop := ∃ (o : Obj) (its : Array Value) (n : Nat), K.lookup a = some o ∧ o.cls = .type "list" ∧ o.dict = none ∧ o.data = .seq its n ∧ its.size ≤ sizeLine ∧ Vals (ns.map V.int) its.toList
def Sc (g : Wd) (H : Hp) (sc : Addr) (ns : List Int) (b : Addr) : Prop := (Rd H sc (.lst (ns.map V.int)) ∧ sc ≠ b) ∨ KL g.K sc ns
section
variable {g : Wd} {j : Nat} {H : Hp}
theorem Sc.sq {sc b : Addr} {ns : List Int} (h : Sc g H sc ns b) : SqL g.K H sc (ns.map V.int) := by
  rcases h with ⟨h, _⟩ | h
  · exact .inl h
  · exact .inr h
theorem Sc.gx {H' : Hp} {sc b : Addr} {ns : List Int} (k : Gx b H H') (h : Sc g H sc ns b) : Sc g H' sc ns b := by
  rcases h with ⟨h, n⟩ | h
  · refine .inl ⟨?_, n⟩
    rcases h with h | ⟨ob, h⟩
    · exact .inl (k _ _ n h)
    · exact .inr ⟨ob, k _ _ n h⟩
  · exact .inr h
theorem Sc.new {H' : Hp} {sc b : Addr} {ns : List Int} (h : SqL g.K H sc (ns.map V.int)) (k : Gr H H') (hb : H b = none) : Sc g H' sc ns b := by
  rcases h with h | h
  · refine .inl ⟨Rd.gr k h, fun e => ?_⟩
    rcases h with h | ⟨ob, h⟩
    · rw [e, hb] at h; cases h
    · rw [e, hb] at h; cases h
  · exact .inr h
def spTake (g : Wd) : Sp := fun vs H Q _ => ∃ (sc b : Addr) (m n : Int) (ns : List Int), vs = [.ref sc, .ref b, .int m] ∧ ns.length ≤ 63 ∧ Sc g H sc ns b ∧ BoxAt H b n ∧ n ≤ 10 ^ 9 ∧ 0 < m ∧ m ≤ 10 ^ 31 ∧ ∀ d H', 0 ≤ d → d < m → Gx b H H' → BoxAt H' b (n + 1) → Q (.int d) H'
theorem lg {x : Int} {k : Nat} (h0 : 0 ≤ x) (hk : 0 < k) (h : x < 2 ^ k) : x.natAbs.log2 < k := log2_lt hk (by
  have e : ((2 ^ k : Nat) : Int) = (2 : Int) ^ k := by simp
  omega)
theorem lg31 {x : Int} (h0 : 0 ≤ x) (h : x < 2147483648) : x.natAbs.log2 < 31 := lg h0 (by decide) (by simpa using h)
theorem lg100 {x : Int} (h0 : 0 ≤ x) (h : x ≤ 10 ^ 31) : x.natAbs.log2 < 110 := lg h0 (by decide) (by
  have : (10 : Int) ^ 31 < 2 ^ 110 := by decide
  omega)
abbrev nx1 (c1 c2 : Int) : Int := (c1 * 48271 + (c2 + 1) * 69621 + 12345) % 2147483647
theorem take2 {sc b : Addr} {m n c0 c1 c2 c3 : Int} {o3 o4 : Option V} {Q : VK} (D : Ends) (hD : D.rt = Q) (h0 : 0 ≤ c0) (h1 : 0 ≤ c1) (h1' : c1 < 2147483647) (h2 : 0 ≤ c2) (h2' : c2 ≤ n) (hn : n ≤ 10 ^ 9) (h3 : 0 ≤ c3) (hm : 0 < m) (hm2 : m ≤ 10 ^ 31)
    (hb : H b = some (.lst [.int c0, .int c1, .int c2, .int c3])) (h : ∀ d H', 0 ≤ d → d < m → Gx b H H' → BoxAt H' b (n + 1) → Q (.int d) H') :
    (tSeq (tIfS (cTest (tOp cGt (tOp (cIx g.K) (cV 1) (tC (.int 0))) (tC (.int 0)))) (tSeq (tAsg (tOp cMod (tCB (cInt) (tCons (tOp (cIx g.K) (cV 1) (tC (.int 0))) (tNil))) (cV 2)) (gName 4))
  (tSeq (tAsg (tOp cDiv (tOp (cIx g.K) (cV 1) (tC (.int 0))) (cV 2)) (gSub (cV 1) (tC (.int 0)) cSetIx))
  (tRet (cV 4)))) (tNext))
  (tSeq (tAsg (tOp (cAdd g.K noOw) (tOp (cIx g.K) (cV 1) (tC (.int 2))) (tC (.int 1))) (gSub (cV 1) (tC (.int 2)) cSetIx))
  (tSeq (tAsg (tOp cMod (tCB (cInt) (tCons (tOp (cAdd g.K noOw) (tOp (cAdd g.K noOw) (tOp cMul (tOp (cIx g.K) (cV 1) (tC (.int 1))) (tC (.int 48271))) (tOp cMul (tOp (cIx g.K) (cV 1) (tC (.int 2))) (tC (.int 69621)))) (tC (.int 12345))) (tNil))) (tC (.int 2147483647))) (gSub (cV 1) (tC (.int 1)) cSetIx))
  (tRet (tOp cMod (tOp cDiv (tOp cMod (tCB (cInt) (tCons (tOp (cAdd g.K noOw) (tOp cMul (tOp cDiv (tOp (cIx g.K) (cV 1) (tC (.int 1))) (tC (.int 16))) (tC (.int 40692))) (tOp cMul (tOp (cIx g.K) (cV 1) (tC (.int 2))) (tC (.int 7)))) (tNil))) (tC (.int 2147483399))) (tC (.int 8))) (cV 2)))))) D [some (.ref sc), some (.ref b), some (.int m), o3, o4] H := by
  subst hD
  refine IxR'.l (.of hb) (v := .int c0) rfl ?_
  refine ite_i (fun c => ?_) (fun c => ?_)
  · have c' := dt c
    refine IxR'.l (.of hb) (v := .int c0) rfl ⟨hm, ?_⟩
    refine IxR'.l (.of hb) (v := .int c0) rfl ⟨⟨hm, by have := lg100 (by omega) hm2; omega⟩, ?_⟩
    refine StIx.by hb (j := 0) rfl ?_
    exact h _ _ (Int.emod_nonneg _ (by omega)) (Int.emod_lt_of_pos _ hm) Gx.upd ⟨c0 / m, c1, c2, c3, upd_same, Int.ediv_nonneg h0 (by omega), h1, h1', h2, by omega, h3⟩
  · refine IxR'.l (.of hb) (v := .int c2) rfl ?_
    refine StIx.by hb (j := 2) rfl ?_
    have e1 : upd H b (.lst [.int c0, .int c1, .int (c2 + 1), .int c3]) b = some (.lst [.int c0, .int c1, .int (c2 + 1), .int c3]) := upd_same
    refine IxR'.l (.of e1) (v := .int c1) rfl ⟨?_, ?_⟩
    · show c1.natAbs.log2 + (48271 : Int).natAbs.log2 < 1000000
      have := lg31 h1 (by omega)
      have e : (48271 : Int).natAbs.log2 = 15 := by decide +kernel
      omega
    refine IxR'.l (.of e1) (v := .int (c2 + 1)) rfl ⟨?_, ?_⟩
    · show (c2 + 1).natAbs.log2 + (69621 : Int).natAbs.log2 < 1000000
      have := lg31 (x := c2 + 1) (by omega) (by omega)
      have e : (69621 : Int).natAbs.log2 = 16 := by decide +kernel
      omega
    refine ⟨(by decide : (0 : Int) < 2147483647), ?_⟩
    refine StIx.by e1 (j := 1) rfl ?_
    have x0 : 0 ≤ nx1 c1 c2 := Int.emod_nonneg _ (by decide)
    have x1 : nx1 c1 c2 < 2147483647 := Int.emod_lt_of_pos _ (by decide)
    have e2 : upd (upd H b (.lst [.int c0, .int c1, .int (c2 + 1), .int c3])) b (.lst [.int c0, .int (nx1 c1 c2), .int (c2 + 1), .int c3]) b = some (.lst [.int c0, .int (nx1 c1 c2), .int (c2 + 1), .int c3]) := upd_same
    refine IxR'.l (.of e2) (v := .int (nx1 c1 c2)) rfl ⟨⟨(by decide : (0 : Int) < 16), (by decide +kernel : (16 : Int).natAbs.log2 < 9000)⟩, ?_, ?_⟩
    · show (nx1 c1 c2 / 16).natAbs.log2 + (40692 : Int).natAbs.log2 < 1000000
      have := lg31 (x := nx1 c1 c2 / 16) (by omega) (by omega)
      have e : (40692 : Int).natAbs.log2 = 15 := by decide +kernel
      omega
    refine IxR'.l (.of e2) (v := .int (c2 + 1)) rfl ⟨?_, ?_⟩
    · show (c2 + 1).natAbs.log2 + (7 : Int).natAbs.log2 < 1000000
      have := lg31 (x := c2 + 1) (by omega) (by omega)
      have e : (7 : Int).natAbs.log2 = 2 := by decide +kernel
      omega
    refine ⟨(by decide : (0 : Int) < 2147483399), ⟨(by decide : (0 : Int) < 8), (by decide +kernel : (8 : Int).natAbs.log2 < 9000)⟩, hm, ?_⟩
    exact h _ _ (Int.emod_nonneg _ (by omega)) (Int.emod_lt_of_pos _ hm) (Gx.upd.trans Gx.upd) ⟨c0, nx1 c1 c2, c2 + 1, c3, upd_same, h0, x0, x1, by omega, by omega, h3⟩
theorem p_take (T : Top g) : FnG g 2 (gad g.K "_law_take") (spTake g) := fk__law_take T 0 fun vs H Q E ⟨sc, b, m, n, ns, ev, hl, hsc, ⟨b0, b1, b2, b3, hb, h0, h1, h1', h2, h2', h3⟩, hn, hm, hm2, h⟩ => by
  subst ev
  refine ⟨rfl, ?_⟩
  refine IxR'.l (.of hb) (v := .int b0) rfl ?_
  refine ite_i (fun c => ?_) (fun c => ?_)
  · refine IxR'.l (.of hb) (v := .int b3) rfl ?_
    refine LenP.l hsc.sq ?_
    rw [List.length_map]
    refine ite_i (fun c => ?_) (fun c => ?_)
    · have c' := dt c
      have hlt : b3.toNat < ns.length := by omega
      refine IxR'.l (.of hb) (v := .int b3) rfl ?_
      refine IxR'.l hsc.sq (v := .int (ns[b3.toNat]'hlt)) (at_of (j := b3.toNat) (by omega) (by simp [hlt])) ?_
      generalize ns[b3.toNat]'hlt = cell
      refine IxR'.l (.of hb) (v := .int b3) rfl ?_
      refine StIx.by hb (j := 3) rfl ?_
      have e1 : upd H b (.lst [.int b0, .int b1, .int b2, .int (b3 + 5)]) b = some (.lst [.int b0, .int b1, .int b2, .int (b3 + 5)]) := upd_same
      refine IxR'.l (.of e1) (v := .int b1) rfl ⟨?_, ?_⟩
      · show b1.natAbs.log2 + (31 : Int).natAbs.log2 < 1000000
        have := lg31 h1 (by omega)
        have e : (31 : Int).natAbs.log2 = 4 := by decide +kernel
        omega
      refine ⟨(by decide : (0 : Int) < 2147483647), ?_⟩
      refine StIx.by e1 (j := 1) rfl ?_
      have x0 : 0 ≤ (b1 * 31 + cell + 17) % 2147483647 := Int.emod_nonneg _ (by decide)
      have x1 : (b1 * 31 + cell + 17) % 2147483647 < 2147483647 := Int.emod_lt_of_pos _ (by decide)
      have e2 : upd (upd H b (.lst [.int b0, .int b1, .int b2, .int (b3 + 5)])) b (.lst [.int b0, .int ((b1 * 31 + cell + 17) % 2147483647), .int b2, .int (b3 + 5)]) b = some (.lst [.int b0, .int ((b1 * 31 + cell + 17) % 2147483647), .int b2, .int (b3 + 5)]) := upd_same
      refine ⟨⟨by decide, by decide, by decide⟩, ?_⟩
      refine ite_i (fun c => ?_) (fun c => ?_)
      · refine StIx.by e2 (j := 0) rfl ?_
        refine take2 _ rfl (c0 := if cell < 0 then -cell else cell) (by split <;> omega) x0 x1 h2 h2' hn (by omega) hm hm2 upd_same fun d H' d0 d1 k hB => h d H' d0 d1 (((Gx.upd.trans Gx.upd).trans Gx.upd).trans k) hB
      · exact take2 _ rfl h0 x0 x1 h2 h2' hn (by omega) hm hm2 e2 fun d H' d0 d1 k hB => h d H' d0 d1 ((Gx.upd.trans Gx.upd).trans k) hB
    · exact take2 _ rfl h0 h1 h1' h2 h2' hn h3 hm hm2 hb h
  · refine ite_i (fun z => Bool.noConfusion z) (fun _ => ?_)
    exact take2 _ rfl h0 h1 h1' h2 h2' hn h3 hm hm2 hb h
end
end Lw

namespace Lw
open PySem PySem.Spec PyProof.Rows L2 Cy Tx
section
variable {g : Wd} {j : Nat} {H : Hp}
theorem cut_map (l : List Int) (lo hi : Option Int) : ∃ l' : List Int, cutV (l.map V.int) lo hi = l'.map V.int ∧ l'.length ≤ l.length ∧ ∀ x ∈ l', x ∈ l := by
  refine ⟨(l.drop (HT.sIx (l.map V.int).length 0 lo)).take (HT.sIx (l.map V.int).length (l.map V.int).length hi - HT.sIx (l.map V.int).length 0 lo), ?_, ?_, fun x hx => List.mem_of_mem_drop (List.mem_of_mem_take hx)⟩
  · unfold cutV
    rw [List.map_take, List.map_drop]
  · rw [List.length_take, List.length_drop]
    omega
def spBox (g : Wd) : Sp := fun vs H Q _ => ∃ (sc : Addr) (a : Int) (ns : List Int), vs = [.ref sc, .int a] ∧ ns.length ≤ 63 ∧ SqL g.K H sc (ns.map V.int) ∧ 0 ≤ a ∧ a ≤ 100 ∧ ∀ b H', Gr H H' → H b = none → BoxAt H' b 0 → Q (.ref b) H'
theorem p_box (T : Top g) : FnG g 2 (gad g.K "_law_box") (spBox g) := fk__law_box T 0 fun vs H Q E ⟨sc, a, ns, ev, hl, hsc, ha, ha2, h⟩ => by
  subst ev
  obtain ⟨cs, ec, lc, _⟩ := cut_map ns none (some 63)
  refine ⟨rfl, SlP.l hsc fun r hr => ?_⟩
  rw [ec]
  refine SeqP.l rfl (.of upd_same) fun D hD => ?_
  refine lc_list (xs := cs.map V.int) (fun i H' => Gr H H' ∧ H' r = some (.lst (cs.map V.int)) ∧ ∃ ms : List Int, ms.length ≤ i ∧ H' D = some (.lst (ms.map V.int))) ?_ (fun i H' hi ⟨_, e, _⟩ => .of e) ?_ ?_
  · have hrD : r ≠ D := fun e => by rw [← e, upd_same] at hD; cases hD
    exact ⟨(Gr.new hr).trans (Gr.new hD), by rw [upd_ne hrD, upd_same], [], Nat.zero_le _, upd_same⟩
  · rintro i x H' hx ⟨k, e1, ms, lm, e2⟩
    rw [List.getElem?_map] at hx
    cases q : cs[i]? with
    | none => rw [q] at hx; cases hx
    | some y =>
      rw [q] at hx
      cases hx
      have hi : i < cs.length := (List.getElem?_eq_some_iff.mp q).1
      have hrD : r ≠ D := fun e => by
        rw [e, upd_same] at hD; cases hD
      have hD0 : H D = none := by
        rw [upd_ne (Ne.symm hrD)] at hD; exact hD
      refine ⟨rfl, ⟨(by decide : (0 : Int) < 1000003), ms.map V.int, e2, by rw [List.length_map, sizeLine_eq]; omega, gr_upd k hD0, by rw [upd_ne hrD]; exact e1, ms ++ [y % 1000003], ?_, ?_⟩⟩
      · rw [List.length_append]; simp; omega
      · rw [List.map_append]; exact upd_same
  · rintro H' ⟨k, e1, ms, lm, e2⟩
    refine SumP.l (.of e2) ⟨?_, ?_⟩
    · show (7919 : Int).natAbs.log2 + a.natAbs.log2 < 1000000
      have := lg31 ha (by omega)
      have e : (7919 : Int).natAbs.log2 = 12 := by decide +kernel
      omega
    refine ⟨(by decide : (0 : Int) < 2147483647), (by decide : 4 ≤ sizeLine), fun b hb => ?_⟩
    have hb0 : H b = none := by
      cases q : H b with
      | none => rfl
      | some o => have := k _ _ q; rw [hb] at this; cases this
    exact h b _ (k.trans (Gr.new hb)) hb0 ⟨_, _, _, _, upd_same, by decide, Int.emod_nonneg _ (by decide), Int.emod_lt_of_pos _ (by decide), by decide, by decide, ha⟩
theorem at_int {l : List Int} {d : Int} (h0 : 0 ≤ d) (h1 : d < l.length) : ∃ v, v ∈ l ∧ atI (l.map V.int) d = some (.int v) := by
  have hlt : d.toNat < l.length := by omega
  exact ⟨l[d.toNat]'hlt, List.getElem_mem hlt, at_of (j := d.toNat) (by omega) (by simp [hlt])⟩
theorem none_of {H H' : Hp} {b p : Addr} {o : HO} (k : Gx b H H') (hb : H b = some o) (hb' : ∃ u, H' b = some u) (h : H' p = none) : H p = none := by
  cases q : H p with
  | none => rfl
  | some u =>
    by_cases e : p = b
    · subst e
      obtain ⟨u', e'⟩ := hb'
      rw [h] at e'; cases e'
    · have := k _ _ e q
      rw [h] at this; cases this
theorem BoxAt.some {b : Addr} {n : Int} (h : BoxAt H b n) : ∃ o, H b = some o := by
  obtain ⟨b0, b1, b2, b3, h0, _⟩ := h
  exact ⟨_, h0⟩
theorem none_bx {H H' : Hp} {b p : Addr} {n m : Int} (k : Gx b H H') (hb : BoxAt H b n) (hb' : BoxAt H' b m) (h : H' p = none) : H p = none := by
  obtain ⟨o, e⟩ := hb.some
  exact none_of k e hb'.some h
end
end Lw

namespace Lw
open PySem PySem.Spec PyProof.Rows L2 Cy Tx
section
variable {g : Wd} {j : Nat} {H : Hp}
theorem RoundAt.gx {H' : Hp} {r b : Addr} {bs : List Int} {n : Int} (k : Gx b H H') (hb : BoxAt H b n) (h : RoundAt g H r bs) : RoundAt g H' r bs := by
  obtain ⟨dx, t, h1, h2⟩ := h
  obtain ⟨b0, b1, b2, b3, z, _⟩ := hb
  exact ⟨dx, t, k _ _ (fun e => by rw [e, z] at h1; cases h1) h1, k _ _ (fun e => by rw [e, z] at h2; cases h2) h2⟩
def spRnd (g : Wd) : Sp := fun vs H Q _ => ∃ (p : Addr) (bs : List Int), vs = [.ref p] ∧ H p = some (.lst (bs.map V.int)) ∧ BsOk bs ∧ ∀ r H', Gr H H' → RoundAt g H' r bs → Q (.ref r) H'
theorem take_succ' {l : List Int} {i : Nat} {x : Int} (h : l[i]? = some x) : l.take (i + 1) = l.take i ++ [x] := by
  rw [List.take_succ, h]; rfl
theorem cut1 (l : List Int) : cutV (l.map V.int) (some 1) none = (l.drop 1).map V.int := by
  unfold cutV
  rw [show (1 : Int) = ((1 : Nat) : Int) from rfl, HT.sIx_nat, HT.sIx_none, List.map_drop]
  by_cases q : 1 ≤ (l.map V.int).length
  · rw [Nat.min_eq_left q]
    exact List.take_of_length_le (by rw [List.length_drop]; exact Nat.le_refl _)
  · have e : l.map V.int = [] := List.eq_nil_of_length_eq_zero (by omega)
    rw [e]; rfl
theorem p_round (T : Top g) : FnG g 13 (gad g.K "_law_round") (spRnd g) := fk__law_round T 11 fun vs H Q E ⟨p, bs, ev, hp, hb, h⟩ => by
  subst ev
  have l1 := hb.l1
  have l2 := hb.l2
  obtain ⟨b0, r0, rfl⟩ : ∃ b0 r0, bs = b0 :: r0 := by
    cases bs with
    | nil => simp at l1
    | cons a r => exact ⟨a, r, rfl⟩
  refine ⟨rfl, IxR'.l (.of hp) (v := .int b0) (at_of (j := 0) rfl rfl) ?_⟩
  refine mk_round T (bs := [b0]) (by decide) (by simp) (by simp) (fun x hx => by
    rw [List.mem_singleton] at hx; subst hx; exact hb.nn _ (List.mem_cons_self ..)) fun r H1 k1 hr0 ra => ?_
  refine SlP.l (.of (k1 _ _ hp)) fun q hq => ?_
  rw [cut1]
  refine SeqP.l rfl (.of upd_same) ?_
  have k2 := k1.trans (Gr.new (o := .lst (((b0 :: r0).drop 1).map V.int)) hq)
  refine for_list (xs := ((b0 :: r0).drop 1).map V.int) (fun i σ H' => Gr H H' ∧ H' q = some (.lst (((b0 :: r0).drop 1).map V.int)) ∧ ∃ r o, RoundAt g H' r ((b0 :: r0).take (i + 1)) ∧ σ = [some (.ref p), some (.ref r), o])
    ⟨k2, upd_same, r, none, ra.gr (Gr.new hq), rfl⟩ (fun i σ H' hi ⟨_, e, _⟩ => .of e) ?_ ?_
  · rintro i x σ H' hx ⟨k3, e3, r', o, ra', rfl⟩
    rw [List.getElem?_map] at hx
    cases qx : ((b0 :: r0).drop 1)[i]? with
    | none => rw [qx] at hx; cases hx
    | some y =>
      rw [qx] at hx
      cases hx
      have ey : (b0 :: r0)[i + 1]? = some y := by rw [List.getElem?_drop] at qx; rw [Nat.add_comm]; exact qx
      have hi : i + 1 < (b0 :: r0).length := (List.getElem?_eq_some_iff.mp ey).1
      have hy : y ∈ b0 :: r0 := List.mem_of_getElem? ey
      refine mk_round T (bs := [y]) (by decide) (by simp) (by simp) (fun x hx => by
        rw [List.mem_singleton] at hx; subst hx; exact hb.nn _ hy) fun r2 H4 k4 hr2 ra2 => ?_
      obtain ⟨dx1, t1, i1, i2⟩ := ra'.gr k4
      obtain ⟨dx2, t2, j1, j2⟩ := id ra2
      refine AddR.own (OwAdd.by i1 j1 (sf_Round T) (du_Round_add T).1 (du_Round_add T).2 (p_radd T) (by decide) ?_)
      refine ⟨r', r2, _, _, rfl, ⟨dx1, t1, i1, i2⟩, ra2, ?_, by simp, ?_, ?_, fun s H5 k5 hs ra5 => ?_⟩
      · intro e
        have := congrArg List.length e
        rw [List.length_take] at this
        simp at this
      · rw [List.length_take]; simp at l2 hi ⊢; omega
      · intro x hx
        rcases List.mem_append.mp hx with z | z
        · exact hb.nn _ (List.mem_of_mem_take z)
        · rw [List.mem_singleton] at z; subst z; exact hb.nn _ hy
      · refine ⟨(k3.trans k4).trans k5, k5 _ _ (k4 _ _ e3), s, _, ?_, rfl⟩
        rw [take_succ' ey]
        exact ra5
  · rintro σ H' ⟨k3, e3, r', o, ra', rfl⟩
    refine h r' H' k3 ?_
    have e : (b0 :: r0).take ((((b0 :: r0).drop 1).map V.int).length + 1) = b0 :: r0 := by
      rw [List.length_map, List.length_drop]
      exact List.take_of_length_le (by simp)
    rw [e] at ra'
    exact ra'
theorem okL_app {l : List Nat} {c : Nat} (h : okL l = true) (hl : l ≠ []) (hc : Bit c = true) : okL (l ++ [c]) = true := by
  unfold okL at h ⊢
  obtain ⟨h1, h2⟩ := Bool.and_eq_true_iff.mp h
  have e : (l ++ [c]).head? = l.head? := by
    cases l with
    | nil => exact absurd rfl hl
    | cons a r => rfl
  rw [e, h1, List.all_append, h2]
  simp [hc]
theorem bit01 (k : Bool) : ∃ c, atI ("01" : Str).cps.toList (if k = true then 1 else 0) = some c ∧ Bit c = true := by
  cases k with
  | true => exact ⟨49, by decide +kernel, by decide⟩
  | false => exact ⟨48, by decide +kernel, by decide⟩
end
end Lw

namespace Lw
open PySem PySem.Spec PyProof.Rows L2 Cy Tx
theorem pre1 (c a : Nat) (r : List Nat) : TL.pre [c] (a :: r) = (a == c) := by
  unfold TL.pre
  rw [Bool.eq_iff_iff]
  simp
theorem spl_all (c : Nat) : ∀ (l acc : List Nat), TL.spl [c] 0 acc l ≠ [] ∧ (TL.spl [c] 0 acc l).length ≤ l.length + 1 ∧ ∀ p ∈ TL.spl [c] 0 acc l, p.length ≤ acc.length + l.length ∧ (c ∉ acc → c ∉ p)
  | [], acc => by
    rw [TL.spl_nil]
    refine ⟨by simp, by simp, fun p hp => ?_⟩
    rw [List.mem_singleton] at hp
    subst hp
    exact ⟨by omega, id⟩
  | a :: r, acc => by
    cases q : TL.pre [c] (a :: r) with
    | true =>
      rw [TL.spl_hit q]
      obtain ⟨h1, h2, h3⟩ := spl_all c r []
      refine ⟨by simp, ?_, fun p hp => ?_⟩
      · show ([c].length - 1 |> fun k => (acc :: TL.spl [c] k [] r).length) ≤ _
        simp only [List.length_cons, List.length_nil]
        have := h2
        show (TL.spl [c] 0 [] r).length + 1 ≤ _
        omega
      · rcases List.mem_cons.mp hp with e | hp
        · subst e
          exact ⟨by omega, id⟩
        · obtain ⟨a1, a2⟩ := h3 p hp
          refine ⟨by rw [List.length_cons]; simp at a1; omega, fun _ => a2 (by simp)⟩
    | false =>
      rw [TL.spl_miss q]
      obtain ⟨h1, h2, h3⟩ := spl_all c r (acc ++ [a])
      refine ⟨h1, by rw [List.length_cons]; omega, fun p hp => ?_⟩
      obtain ⟨a1, a2⟩ := h3 p hp
      rw [List.length_append, List.length_singleton] at a1
      refine ⟨by rw [List.length_cons]; omega, fun hn => a2 ?_⟩
      rw [List.mem_append, List.mem_singleton]
      rintro (z | z)
      · exact hn z
      · rw [pre1] at q
        subst z
        simp at q
theorem spl_sum (c : Nat) : ∀ (l acc : List Nat), ((TL.spl [c] 0 acc l).map List.length).sum ≤ acc.length + l.length
  | [], acc => by rw [TL.spl_nil]; simp
  | a :: r, acc => by
    cases q : TL.pre [c] (a :: r) with
    | true =>
      rw [TL.spl_hit q]
      have := spl_sum c r []
      show acc.length + ((TL.spl [c] 0 [] r).map List.length).sum ≤ _
      rw [List.length_cons]
      simp at this ⊢
      omega
    | false =>
      rw [TL.spl_miss q]
      have := spl_sum c r (acc ++ [a])
      rw [List.length_append, List.length_singleton] at this
      rw [List.length_cons]
      omega
theorem split_sp {z y : Str} {c : Nat} (hy : y = ⟨#[c]⟩) (hc : c < 256) : Txt.split z y = (TL.spl [c] 0 [] (ls z)).map SX.S := by
  have q := SX.split_S (a := ls z) (b := [c]) (by simp) (by simpa using hc)
  have ez : SX.S (ls z) = z := SX.S_tl z
  rw [ez] at q
  subst hy
  exact q
theorem split_facts {z y : Str} {c : Nat} (hy : y = ⟨#[c]⟩) (hc : c < 256) : Txt.split z y ≠ [] ∧ (Txt.split z y).length ≤ z.length + 1 ∧ ∀ p ∈ Txt.split z y, p.length ≤ z.length ∧ c ∉ ls p := by
  obtain ⟨h1, h2, h3⟩ := spl_all c (ls z) []
  rw [split_sp hy hc]
  refine ⟨by simpa using h1, by rw [List.length_map, ls_len z]; exact h2, fun p hp => ?_⟩
  obtain ⟨l, hl, rfl⟩ := List.mem_map.mp hp
  obtain ⟨a1, a2⟩ := h3 l hl
  refine ⟨by rw [SX.S_len, ls_len z]; simpa using a1, a2 (by simp)⟩
theorem split_sum {z y : Str} {c : Nat} (hy : y = ⟨#[c]⟩) (hc : c < 256) : ((Txt.split z y).map (·.length)).sum ≤ z.length := by
  rw [split_sp hy hc, SX.lens]
  have := spl_sum c (ls z) []
  rw [ls_len z]
  simpa using this
theorem sp_eq : (" " : Str) = ⟨#[32]⟩ := by decide +kernel
theorem nl_eq : ("\n" : Str) = ⟨#[10]⟩ := by decide +kernel
end Lw

namespace Lw
open PySem PySem.Spec PyProof.Rows L2 Cy Tx
def off (b : Addr) (H : Hp) : Hp := fun a => if a = b then none else H a
theorem off_le {b : Addr} {H : Hp} : Gr (off b H) H := fun a o e => by
  unfold off at e
  split at e
  · cases e
  · exact e
theorem off_ne {b a : Addr} {H : Hp} {o : HO} (n : a ≠ b) (h : H a = some o) : off b H a = some o := by unfold off; rw [if_neg n]; exact h
theorem Gx.off {b : Addr} {H H' : Hp} (k : Gx b H H') : Gr (off b H) (off b H') := fun a o e => by
  have n : a ≠ b := fun q => by unfold Lw.off at e; rw [if_pos q] at e; cases e
  exact off_ne n (k a o n (off_le a o e))
theorem off_none {b a : Addr} {H : Hp} (h : H a = none) : off b H a = none := by unfold off; split; rfl; exact h
abbrev LcG (J : It) (g : TG) (tt : TT) (te : TE) (vs : List Nat) (σ : L2.St) (H1 : Hp) (D : Addr) (Qd : Hp → Prop) : Prop :=
    ∃ W : Nat → Nat → Hp → Prop, (∃ m, W 0 m (upd H1 D (.lst []))) ∧ ∀ i m H, W i m H →
      (J.stop i H ∧ Qd H) ∨ (J.go i H ∧ ∃ Nx : Hp → Prop, (∀ H', Nx H' → ∃ m', m' < m ∧ W (i + 1) m' H') ∧ ∀ x H', J.yld i H x H' → g x (wipe σ vs) H' fun σ2 H2 => wipe σ2 vs = wipe σ vs ∧ tt σ2 H2 fun b H3 =>
        if b = true then te σ2 H3 fun y H4 => ∃ acc, H4 D = some (.lst acc) ∧ acc.length < sizeLine ∧ Nx (upd H4 D (.lst (acc ++ [y]))) else Nx H3)
/-- a walk's comprehension of values -/
theorem lc_src {α : Type} {J : It} {G : Hp → Prop} {Y : Nat → Hp → V → Hp → Prop} {inj : α → V} {g : TG} {tt : TT} {te : TE} {vs : List Nat} {σ : L2.St} {H1 : Hp} {D : Addr} {Qd : Hp → Prop} (src : List α)
    (w : Walk J src.length G Y) (hn : src.length ≤ sizeLine) (hDn : H1 D = none) (hG : ∀ H, Gr H1 H → G H) (hY : ∀ i H x H', Y i H x H' → H' = H ∧ ∃ a, src[i]? = some a ∧ x = inj a) (F : α → Option V)
    (hs : ∀ a ∈ src, ∀ (H : Hp) (R : Option V → Hp → Prop), Gr H1 H → (∀ H4, Gr H H4 → R (F a) H4) → g (inj a) (wipe σ vs) H fun σ2 H2 => wipe σ2 vs = wipe σ vs ∧ tt σ2 H2 fun b H3 => if b = true then te σ2 H3 (fun y H4 => R (some y) H4) else R none H3)
    (hd : ∀ H, Gr H1 H → H D = some (.lst (src.filterMap F)) → Qd H) :
    LcG J g tt te vs σ H1 D Qd := by
  have len : ∀ i, i < src.length → ((src.take i).filterMap F).length < sizeLine := fun i hi => by
    have h1 := List.length_filterMap_le F (src.take i)
    rw [List.length_take] at h1
    omega
  have one : ∀ (i : Nat) (a : α), src[i]? = some a → (src.take (i + 1)).filterMap F = (src.take i).filterMap F ++ (F a).toList := fun i a e => by
    rw [List.take_succ, e, List.filterMap_append]
    cases h : F a <;> simp [h]
  refine lc_it w (fun i H => Gr H1 H ∧ H D = some (.lst ((src.take i).filterMap F))) ⟨Gr.new hDn, upd_same⟩ (fun i H _ p => hG H p.1) ?_ ?_
  · rintro i x H H' hi ⟨k, e⟩ y
    obtain ⟨rfl, a, ea, rfl⟩ := hY _ _ _ _ y
    have mem : a ∈ src := List.mem_of_getElem? ea
    have q := hs a mem H' (fun o H4 => match o with
      | some y => ∃ acc, H4 D = some (.lst acc) ∧ acc.length < sizeLine ∧ Gr H1 (upd H4 D (.lst (acc ++ [y]))) ∧ upd H4 D (.lst (acc ++ [y])) D = some (.lst ((src.take (i + 1)).filterMap F))
      | none => Gr H1 H4 ∧ H4 D = some (.lst ((src.take (i + 1)).filterMap F))) k fun H4 k4 => by
        rw [one i a ea]
        cases F a with
        | none => exact ⟨k.trans k4, by simpa using k4 _ _ e⟩
        | some y => exact ⟨_, k4 _ _ e, len i hi, gr_upd (k.trans k4) hDn, upd_same⟩
    exact q
  · rintro H ⟨k, e⟩
    rw [List.take_length] at e
    exact hd H k e
theorem lc_text {z : Str} {g : TG} {tt : TT} {te : TE} {vs : List Nat} {σ : L2.St} {H1 : Hp} {D : Addr} {Qd : Hp → Prop} (hn : z.length ≤ sizeLine) (hDn : H1 D = none) (F : Nat → Option V)
    (hs : ∀ a ∈ ls z, ∀ (H : Hp) (R : Option V → Hp → Prop), Gr H1 H → (∀ H4, Gr H H4 → R (F a) H4) → g (.str ⟨#[a]⟩) (wipe σ vs) H fun σ2 H2 => wipe σ2 vs = wipe σ vs ∧ tt σ2 H2 fun b H3 => if b = true then te σ2 H3 (fun y H4 => R (some y) H4) else R none H3)
    (hd : ∀ H, Gr H1 H → H D = some (.lst ((ls z).filterMap F)) → Qd H) : LcG (Its z) g tt te vs σ H1 D Qd := lc_src (inj := fun c => .str ⟨#[c]⟩) (ls z) (by
      have e : (ls z).length = z.cps.size := by simp
      rw [e]
      exact walk_str (z := z)) (by rw [← ls_len]; exact hn) hDn (fun _ _ => trivial) (fun i H x H' (y : H' = H ∧ ∃ c, z.cps[i]? = some c ∧ x = .str ⟨#[c]⟩) => ⟨y.1, by
      obtain ⟨_, c, h1, h2⟩ := y
      exact ⟨c, by simpa using h1, h2⟩⟩) F hs hd
theorem lc_lst {K : PySem.W.Frag} {a : Addr} {xs : List V} {g : TG} {tt : TT} {te : TE} {vs : List Nat} {σ : L2.St} {H1 : Hp} {D : Addr} {Qd : Hp → Prop} (hx : SqL K H1 a xs) (hn : xs.length ≤ sizeLine) (hDn : H1 D = none) (F : V → Option V)
    (hs : ∀ a ∈ xs, ∀ (H : Hp) (R : Option V → Hp → Prop), Gr H1 H → (∀ H4, Gr H H4 → R (F a) H4) → g a (wipe σ vs) H fun σ2 H2 => wipe σ2 vs = wipe σ vs ∧ tt σ2 H2 fun b H3 => if b = true then te σ2 H3 (fun y H4 => R (some y) H4) else R none H3)
    (hd : ∀ H, Gr H1 H → H D = some (.lst (xs.filterMap F)) → Qd H) : LcG (Itl K a) g tt te vs σ H1 D Qd := lc_src (inj := fun c => c) xs (walk_list (K := K) (a := a)) hn hDn (fun _ k => SqL_gr k hx) (fun i H x H' y => ⟨y.1, x, y.2, rfl⟩) F hs hd
theorem filterMap_all {α β : Type} (f : α → β) : ∀ l : List α, l.filterMap (fun a => some (f a)) = l.map f
  | [] => rfl
  | a :: r => by simp [List.filterMap_cons, filterMap_all f r]
def isD (c : Nat) : Bool := decide (48 ≤ c) && decide (c ≤ 57)
abbrev ten : Str := "0123456789"
theorem ls_ten : ls ten = [48, 49, 50, 51, 52, 53, 54, 55, 56, 57] := by decide +kernel
theorem cin_one {K : PySem.W.Frag} {z : Str} {c : Nat} {H : Hp} {Q : VK} (h : Q (.bl (decide (c ∈ ls z))) H) : cIn K false (.str ⟨#[c]⟩) (.str z) H Q := by
  show Q (.bl (false != !(Builtin.Str.occurrences z ⟨#[c]⟩ 0 z.length 1).isEmpty)) H
  rw [StrLaws.found_one]
  have e : (false != decide (c ∈ z.cps.toList)) = decide (c ∈ z.cps.toList) := by cases decide (c ∈ z.cps.toList) <;> rfl
  rw [e]; exact h
theorem cnin_one {K : PySem.W.Frag} {z : Str} {c : Nat} {H : Hp} {Q : VK} (h : Q (.bl (!decide (c ∈ ls z))) H) : cIn K true (.str ⟨#[c]⟩) (.str z) H Q := by
  show Q (.bl (true != !(Builtin.Str.occurrences z ⟨#[c]⟩ 0 z.length 1).isEmpty)) H
  rw [StrLaws.found_one]
  have e : (true != decide (c ∈ z.cps.toList)) = !decide (c ∈ z.cps.toList) := by cases decide (c ∈ z.cps.toList) <;> rfl
  rw [e]; exact h
theorem mem_ten (c : Nat) : decide (c ∈ ls ten) = isD c := by
  rw [ls_ten, Bool.eq_iff_iff]
  simp [isD]
  omega
theorem ml4 {n : Nat} (h : n ≤ 4000000) : n ≤ sizeLine := by rw [sizeLine_eq]; omega
theorem dt' {p : Prop} [Decidable p] (h : (!decide p) = true) : ¬p := by simpa using h
theorem df' {p : Prop} [Decidable p] (h : (!decide p) = false) : p := by simpa using h
section
variable {g : Wd} {j : Nat} {H : Hp}
end
end Lw

namespace Lw
open PySem PySem.Spec PyProof.Rows L2 Cy Tx
theorem inV_strs (x : Str) : ∀ l : List Str, inV (.str x) (l.map V.str) = decide (x ∈ l)
  | [] => rfl
  | a :: r => by
    have h := inV_strs x r
    unfold inV at h ⊢
    rw [List.map_cons, List.any_cons, h]
    have e : eqV (.str a) (.str x) = decide (x = a) := by
      show (a == x) = decide (x = a)
      by_cases q : x = a
      · subst q; simp
      · have q2 : ¬ a = x := fun z => q z.symm
        simp [q, q2]
    rw [e]
    by_cases q : x = a <;> simp [q]
theorem flat_strs : ∀ l : List Str, (l.map V.str).all flatV = true
  | [] => rfl
  | a :: r => by rw [List.map_cons, List.all_cons, flat_strs r]; rfl
theorem dt0 {p : Prop} [Decidable p] (h : (false != decide p) = true) : p := by simpa using h
theorem df0 {p : Prop} [Decidable p] (h : (false != decide p) = false) : ¬p := by simpa using h
theorem dt1 {p : Prop} [Decidable p] (h : (true != decide p) = true) : ¬p := by simpa using h
theorem df1 {p : Prop} [Decidable p] (h : (true != decide p) = false) : p := by simpa using h
theorem last_of {ys : List Str} {a : Str} {l : List Str} {x : Str} (e : ys ++ [a] = l ++ [x]) : a = x := by
  have := congrArg List.getLast? e
  simpa using this
theorem len3 {α : Type} {ws : List α} (h : ws.length = 3) : ∃ a b c, ws = [a, b, c] := match ws, h with
  | [a, b, c], _ => ⟨a, b, c, rfl⟩
theorem len6 {α : Type} {ws : List α} (h : ws.length = 6) : ∃ a b c d e f, ws = [a, b, c, d, e, f] := match ws, h with
  | [a, b, c, d, e, f], _ => ⟨a, b, c, d, e, f, rfl⟩
section
variable {g : Wd} {j : Nat} {H : Hp}
theorem gn {k : Nat} {v : V} {σ : L2.St} {H : Hp} {Q : L2.St → Hp → Prop} (h : Q (σ.set k (some v)) H) : gName k v σ H Q := h
theorem sif {c : TT} {t u r : TS} {D : Ends} {σ : L2.St} {H : Hp} (post : Bool → Hp → Prop) (h1 : ∀ K : Bool → Hp → Prop, (∀ b H2, post b H2 → K b H2) → c σ H K)
    (h2 : ∀ b H2, post b H2 → if b = true then t { D with nx := r D } σ H2 else u { D with nx := r D } σ H2) : tSeq (tIfS c t u) r D σ H := h1 _ h2
end
end Lw

namespace Lw
open PySem PySem.Spec PyProof.Rows L2 Cy Tx
theorem none_gr {H H' : Hp} {p : Addr} (k : Gr H H') (h : H' p = none) : H p = none := by
  cases q : H p with
  | none => rfl
  | some o => have := k _ _ q; rw [h] at this; cases this
theorem occ_ten (c : Nat) : (true != !(Builtin.Str.occurrences ten ⟨#[c]⟩ 0 ten.length 1).isEmpty) = !isD c := by
  rw [StrLaws.found_one, show decide (c ∈ ten.cps.toList) = isD c from mem_ten c]
  cases isD c <;> rfl
section
variable {g : Wd} {j : Nat} {H : Hp}
end
end Lw

namespace Lw
open PySem PySem.Spec PyProof.Rows L2 Cy Tx
theorem count0 (z : Str) : Txt.count z "0" = ((ls z).count 48 : Int) := by rw [zero_eq, count_cnt, cnt_count]
theorem bits_count : ∀ l : List Nat, l.all Bit = true → l.count 48 + l.count 49 = l.length
  | [], _ => rfl
  | a :: r, h => by
    rw [List.all_cons, Bool.and_eq_true] at h
    have ih := bits_count r h.2
    have ha : a = 48 ∨ a = 49 := by simpa [Bit] using h.1
    rcases ha with rfl | rfl
    · simp; omega
    · simp; omega
theorem count_dead {z : Str} (h : okW z = true) : Txt.count z "0" = z.length - Txt.count z "1" := by
  rw [count0, count1, ls_len]
  have := bits_count (ls z) (ok_all h)
  omega
theorem ones_le {z : Str} (h : okW z = true) : Txt.count z "1" ≤ z.length := by
  rw [count1, ls_len]
  have := bits_count (ls z) (ok_all h)
  omega
section
variable {g : Wd} {j : Nat} {H : Hp}
theorem bat_at {bs : List Int} (hb : 0 < bs.length) (t : Int) : atI (bs.map V.int) (t % (bs.length : Int)) = some (.int (bat bs t)) := by
  obtain ⟨k, hk, ek⟩ := nat_mod (a := t) hb
  refine at_of ek ?_
  unfold bat
  rw [ek]
  simp [List.getD, hk]
end
end Lw

namespace Lw
open PySem PySem.Spec PyProof.Rows L2 Cy Tx
section
variable {g : Wd} {j : Nat} {H : Hp}
def spIsc : Sp := fun vs H Q _ => ∃ n : Int, vs = [.int n] ∧ Q (.bl true) H
theorem p_isc (T : Top g) : FnG g 2 (gad g.K "_law_is_count") spIsc := fk__law_is_count T 0 fun vs H Q E ⟨n, ev, h⟩ => by
  subst ev
  refine ⟨rfl, IsiP.sc (n := "int") (m := "int") (b := true) rfl rfl rfl ?_⟩
  exact IsiP.sc (n := "int") (m := "bool") (b := false) rfl rfl rfl h
theorem p_iscx (T : Top g) : FnP g 2 (gad g.K "_law_is_count") (fun _ _ _ vs H Q => ∃ n : Int, vs = [.int n] ∧ Q (.bl true) H) := by
  obtain ⟨fd, F⟩ := fd__law_is_count T
  have hb : Binds g.K fd ["_law_thing"] [] := FunD.bindsN F fun _ _ _ _ _ _ us hl => match us, hl with | [_], _ => rfl
  obtain ⟨oc, od, dV, kV, doc, pm, an, cdv, ct, osl, rfl, lk, hcd, hD, _⟩ := F.ex
  refine fn_ofP (f := gad g.K "_law_is_count") lk hcd sc__law_is_count hb (fun a c d vs H Q ⟨n, ev, _⟩ => by subst ev; rfl) fun A outer s H vs Q p cls d hr hz hfv ⟨n, ev, q⟩ => ⟨rd__law_is_count g 0 E0, ?_, ?_⟩
  · unfold rd__law_is_count
    exact (pss_one (ps_ret (pe_cAnd (pe_callB (call_cIsi) (by rfl) (bl_isinstance T) bt_isinstance (pa_cons (cv 0) (pa_cons (pe_bltn (v := .ty "int") (by rfl) (bl_int T) bt_int (by rfl)) pa_nil))) (pe_one (pe_cNot (pe_callB (call_cIsi) (by rfl) (bl_isinstance T) bt_isinstance (pa_cons (cv 0) (pa_cons (pe_bltn (v := .ty "bool") (by rfl) (bl_bool T) bt_bool (by rfl)) pa_nil))))))))
  · subst ev
    refine IsiP.sc (n := "int") (m := "int") (b := true) rfl rfl rfl ?_
    exact IsiP.sc (n := "int") (m := "bool") (b := false) rfl rfl rfl q
end
end Lw

namespace Lw
open PySem PySem.Spec PyProof.Rows L2 Cy Tx
theorem seq_cut {t r : TS} {D : Ends} {σ : L2.St} {H : Hp} (post : L2.St → Hp → Prop) (h1 : ∀ D' : Ends, (∀ σ' H', post σ' H' → D'.nx σ' H') → t D' σ H) (h2 : ∀ σ' H', post σ' H' → r D σ' H') : tSeq t r D σ H := h1 _ h2
section
variable {g : Wd} {j : Nat} {H : Hp}
structure Dr (g : Wd) (H : Hp) (sc b : Addr) (n : Int) (ns : List Int) : Prop where
  len : ns.length ≤ 63
  sc : Sc g H sc ns b
  bx : BoxAt H b n
theorem Dr.gr {H' : Hp} {sc b : Addr} {n : Int} {ns : List Int} (k : Gr H H') (h : Dr g H sc b n ns) : Dr g H' sc b n ns := ⟨h.len, h.sc.gx (Gx.gr k), h.bx.gr k⟩
theorem Dr.mono {sc b : Addr} {n m : Int} {ns : List Int} (h : Dr g H sc b n ns) (k : n ≤ m) : Dr g H sc b m ns := ⟨h.len, h.sc, h.bx.mono k⟩
theorem Dr.nb {sc b p : Addr} {n : Int} {ns : List Int} (h : Dr g H sc b n ns) (hp : H p = none) : p ≠ b := fun e => by obtain ⟨o, z⟩ := h.bx.some; rw [← e, hp] at z; cases z
/-- what is new stands beside the box -/
theorem Dr.al {sc b p : Addr} {n : Int} {ns : List Int} {o : HO} (h : Dr g H sc b n ns) (hp : H p = none) : Gr (off b H) (off b (upd H p o)) ∧ off b (upd H p o) p = some o ∧ Dr g (upd H p o) sc b n ns :=
  ⟨Gx.off (Gx.gr (Gr.new hp)), off_ne (h.nb hp) upd_same, h.gr (Gr.new hp)⟩
theorem t_take (T : Top g) {sc b : Addr} {n m : Int} {ns : List Int} {Q : VK} {E : XK} (D : Dr g H sc b n ns) (hj : 2 ≤ j) (hn : n ≤ 10 ^ 9) (h0 : 0 < m) (hm : m ≤ 10 ^ 31)
    (h : ∀ d H', 0 ≤ d → d < m → Gx b H H' → Dr g H' sc b (n + 1) ns → Q (.int d) H') : CallP g j (gad g.K "_law_take") [.ref sc, .ref b, .int m] H Q E :=
  CallP.by (p_take T) hj ⟨sc, b, m, n, ns, rfl, D.len, D.sc, D.bx, hn, h0, hm, fun d H' d0 d1 k hb => h d H' d0 d1 k ⟨D.len, D.sc.gx k, hb⟩⟩
theorem at_str {l : List Str} {d : Int} (h0 : 0 ≤ d) (h1 : d < l.length) : ∃ v, v ∈ l ∧ atI (l.map V.str) d = some (.str v) := by
  have hlt : d.toNat < l.length := by omega
  exact ⟨l[d.toNat]'hlt, List.getElem_mem hlt, at_of (j := d.toNat) (by omega) (by simp [hlt])⟩
theorem at_ref {l : List Addr} {d : Int} (h0 : 0 ≤ d) (h1 : d < l.length) : ∃ v, v ∈ l ∧ atI (l.map V.ref) d = some (.ref v) := by
  have hlt : d.toNat < l.length := by omega
  exact ⟨l[d.toNat]'hlt, List.getElem_mem hlt, at_of (j := d.toNat) (by omega) (by simp [hlt])⟩
end
end Lw

namespace Lw
open PySem PySem.Spec PyProof.Rows L2 Cy Tx
theorem cutS_len (z : Str) (lo hi : Option Int) : (cutS z lo hi).length ≤ z.length := by
  unfold cutS
  show (List.take _ _).toArray.size ≤ _
  rw [List.size_toArray, List.length_take, List.length_drop]
  have h : z.length = z.cps.toList.length := ls_len z
  omega
section
variable {g : Wd} {j : Nat} {H : Hp} {sc b p q : Addr} {n : Int} {ns : List Int} {M : List (Addr × List Str)} {l m : List Str} {Q : VK}
theorem sp_len : (" " : Str).length = 1 := by decide +kernel
theorem tab_len : ("\t" : Str).length = 1 := by decide +kernel
end
end Lw

namespace Lw
open PySem PySem.Spec PyProof.Rows L2 Cy Tx
theorem gx_upd {b p : Addr} {H H' : Hp} {o : HO} (k : Gx b H H') (h : H p = none) : Gx b H (upd H' p o) := fun a u n e => by rw [upd_ne (ne_of_none e h)]; exact k a u n e
theorem len_zero {z : Str} (h : z.length = 0) : z = "" := by
  refine ls_ext ?_
  rw [ls_len] at h
  rw [List.eq_nil_of_length_eq_zero h]
  decide +kernel
section
variable {g : Wd} {j : Nat} {H : Hp}
theorem Dr.up {sc b p : Addr} {n : Int} {ns : List Int} {o : HO} {H0 : Hp} (h : Dr g H sc b n ns) (np : p ≠ b) (hs : Gx b H0 H) (h0 : Sc g H0 sc ns b) (hp : H0 p = none) : Dr g (upd H p o) sc b n ns := ⟨h.len, h0.gx (gx_upd hs hp), by
  obtain ⟨b0, b1, b2, b3, z, r⟩ := h.bx
  exact ⟨b0, b1, b2, b3, by rw [upd_ne (Ne.symm np)]; exact z, r⟩⟩
theorem sum_le {B : Nat} : ∀ {l : List Str}, (∀ w ∈ l, w.length ≤ B) → (l.map (·.length)).sum ≤ l.length * B
  | [], _ => by simp
  | a :: r, h => by
    have h1 := h a (List.mem_cons_self ..)
    have h2 := sum_le (l := r) fun w hw => h w (List.mem_cons_of_mem _ hw)
    rw [List.map_cons, List.sum_cons, List.length_cons, Nat.add_mul]
    omega
end
end Lw

namespace Lw
open PySem PySem.Spec PyProof.Rows L2 Cy Tx
section
variable {g : Wd} {j : Nat} {H : Hp}
theorem dpAll_ints {K : PySem.W.Frag} : ∀ l : List Int, DpAll K H (l.map V.int) (l.map PyData.int)
  | [] => .nil
  | a :: r => .cons (.int a) (dpAll_ints r)
theorem eq_ints {K : PySem.W.Frag} {p q : Addr} {l : List Int} {Q : VK} (h1 : H p = some (.lst (l.map V.int))) (h2 : H q = some (.lst (l.map V.int))) (k : Q (.bl true) H) : EqR K p q H false Q := by
  refine .dat (.list (l.map PyData.int)) (.list (l.map PyData.int)) (.lst (.of h1) (dpAll_ints l)) (.lst (.of h2) (dpAll_ints l)) (PySem.W.shaped_ints l) (PySem.W.shaped_ints l) ?_
  rw [PySem.SeqAt.eqv_refl _ (PySem.SeqAt.canLay_of_shaped (PySem.W.shaped_ints l))]
  exact k
theorem cut_refs (l : List Addr) (lo hi : Option Int) : ∃ l' : List Addr, cutV (l.map V.ref) lo hi = l'.map V.ref ∧ (∀ x ∈ l', x ∈ l) ∧ l'.length ≤ l.length := by
  refine ⟨(l.drop (HT.sIx (l.map V.ref).length 0 lo)).take (HT.sIx (l.map V.ref).length (l.map V.ref).length hi - HT.sIx (l.map V.ref).length 0 lo), ?_, fun x hx => List.mem_of_mem_drop (List.mem_of_mem_take hx), ?_⟩
  · unfold cutV
    rw [List.map_take, List.map_drop]
  · rw [List.length_take, List.length_drop]; omega
end
end Lw

namespace Lf
def up (D : List Nat) : List Nat := D.map (· + 1)
def app (D : List Nat) : List Nat := up D ++ [1]
def car : List Nat → List Nat
  | [] => []
  | _ :: ds => up ds ++ [1]
def cars : Nat → List Nat → List Nat
  | 0, D => D
  | k + 1, D => cars k (car D)
def rel (N : Nat) (D : List Nat) : List Nat := if D.length < N then D else D.dropLast
def len (D : List Nat) : Nat := D.headD 0
/-- the log before put t, behind the release -/
def R (b : Nat → Nat) (N : Nat) (D : List Nat) : Nat → List Nat
  | 0 => rel N D
  | t + 1 => rel N (app (cars (min (b t) (R b N D t).length) (R b N D t)))
def cum (b : Nat → Nat) : Nat → Nat
  | 0 => 0
  | t + 1 => cum b t + b t
/-- depths: positive, falling -/
def Ok : List Nat → Prop
  | [] => True
  | [d] => 0 < d
  | d :: e :: r => e < d ∧ Ok (e :: r)
theorem Ok.tail {d : Nat} : ∀ {r : List Nat}, Ok (d :: r) → Ok r
  | [], _ => trivial
  | _ :: _, h => h.2
theorem Ok.pos {d : Nat} : ∀ {r : List Nat}, Ok (d :: r) → r.length < d
  | [], h => h
  | e :: r, h => by
    have := Ok.pos h.2
    have := h.1
    simp only [List.length_cons]
    omega
theorem Ok.get : ∀ {D : List Nat}, Ok D → ∀ {i : Nat} {d : Nat}, D[i]? = some d → D.length - i ≤ d ∧ 0 < d
  | [], _, i, d, e => by simp at e
  | a :: r, h, 0, d, e => by
    cases e
    have := Ok.pos h
    simp only [List.length_cons]
    omega
  | a :: r, h, i + 1, d, e => by
    have := Ok.get (Ok.tail h) (show r[i]? = some d from e)
    simp only [List.length_cons]
    omega
def ofPos (P : Nat) (S : List Nat) (C : Nat) : List Nat := (S.drop C).map fun p => P - p
theorem ofPos_len {P : Nat} {S : List Nat} {C : Nat} : (ofPos P S C).length = S.length - C := by unfold ofPos; rw [List.length_map, List.length_drop]
theorem up_of {P : Nat} : ∀ {l : List Nat}, (∀ p ∈ l, p ≤ P) → up (l.map fun p => P - p) = l.map fun p => P + 1 - p
  | [], _ => rfl
  | a :: r, h => by
    have h1 := h a (List.mem_cons_self ..)
    have h2 := up_of (l := r) fun p hp => h p (List.mem_cons_of_mem _ hp)
    unfold up at h2 ⊢
    rw [List.map_cons, List.map_cons, List.map_cons, h2]
    congr 1
    omega
theorem car_of {P : Nat} {S : List Nat} {C : Nat} (h : ∀ p ∈ S, p ≤ P) (hC : C < S.length) : car (ofPos P S C) = ofPos (P + 1) (S ++ [P]) (C + 1) := by
  unfold ofPos
  rw [List.drop_eq_getElem_cons hC, List.map_cons]
  show up ((S.drop (C + 1)).map fun p => P - p) ++ [1] = _
  rw [up_of fun p hp => h p (List.mem_of_mem_drop hp), List.drop_append_of_le_length (by omega), List.map_append]
  congr 1
  show [1] = [P + 1 - P]
  congr 1
  omega
theorem cars_of : ∀ (k : Nat) {P : Nat} {S : List Nat} {C : Nat}, (∀ p ∈ S, p < P) → k ≤ S.length - C → cars k (ofPos P S C) = ofPos (P + k) (S ++ List.range' P k) (C + k)
  | 0, P, S, C, _, _ => by simp [cars]
  | k + 1, P, S, C, h, hk => by
    show cars k (car (ofPos P S C)) = _
    rw [car_of (fun p hp => Nat.le_of_lt (h p hp)) (by omega), cars_of k (fun p hp => ?_) (by rw [List.length_append, List.length_singleton]; omega)]
    · rw [List.append_assoc, show P + 1 + k = P + (k + 1) by omega, show C + 1 + k = C + (k + 1) by omega]
      congr 2
    · rcases List.mem_append.mp hp with hp | hp
      · have := h p hp; omega
      · rw [List.mem_singleton] at hp; omega
theorem app_of {P : Nat} {S : List Nat} {C : Nat} (h : ∀ p ∈ S, p ≤ P) (hC : C ≤ S.length) : app (ofPos P S C) = ofPos (P + 1) (S ++ [P]) C := by
  unfold app ofPos
  rw [up_of fun p hp => h p (List.mem_of_mem_drop hp), List.drop_append_of_le_length hC, List.map_append]
  congr 1
  show [1] = [P + 1 - P]
  congr 1
  omega
section
variable (b : Nat → Nat) (N : Nat) (D : List Nat)
def n1 : Nat := min D.length (N - 1)
def gr : Nat := N - 1 - n1 N D
/-- the others at put t -/
def oth (t : Nat) : Nat := n1 N D + min t (gr N D)
def C : Nat → Nat
  | 0 => 0
  | t + 1 => C t + min (b t) (oth N D t)
def P (t : Nat) : Nat := len D + C b N D t + t
/-- the places of what was written and kept -/
def S : Nat → List Nat
  | 0 => (D.take (n1 N D)).map fun d => len D - d
  | t + 1 => S t ++ List.range' (P b N D t) (min (b t) (oth N D t)) ++ (if t < gr N D then [P b N D t + min (b t) (oth N D t)] else [])
end
variable {b : Nat → Nat} {N : Nat} {D : List Nat}
theorem P_succ (t : Nat) : P b N D (t + 1) = P b N D t + min (b t) (oth N D t) + 1 := by
  unfold P
  show len D + (C b N D t + min (b t) (oth N D t)) + (t + 1) = _
  omega
theorem S_len (t : Nat) : (S b N D t).length = C b N D t + oth N D t := by
  induction t with
  | zero =>
    show ((D.take (n1 N D)).map fun d => len D - d).length = 0 + oth N D 0
    rw [List.length_map, List.length_take]
    unfold oth n1
    omega
  | succ t ih =>
    show (S b N D t ++ List.range' (P b N D t) (min (b t) (oth N D t)) ++ (if t < gr N D then [P b N D t + min (b t) (oth N D t)] else [])).length = C b N D t + min (b t) (oth N D t) + oth N D (t + 1)
    rw [List.length_append, List.length_append, ih, List.length_range']
    unfold oth
    split
    · simp only [List.length_singleton]; omega
    · simp only [List.length_nil]; omega
theorem Ok.le_head : ∀ {D : List Nat}, Ok D → ∀ d ∈ D, d ≤ len D
  | [], _, d, h => by cases h
  | a :: r, h, d, hd => by
    rcases List.mem_cons.mp hd with e | hd
    · subst e; exact Nat.le_refl _
    · cases r with
      | nil => cases hd
      | cons e r =>
        have h1 := Ok.le_head h.2 d hd
        have h2 := h.1
        show d ≤ a
        have : d ≤ e := h1
        omega
theorem S_lt (hD : Ok D) (t : Nat) : ∀ p ∈ S b N D t, p < P b N D t := by
  induction t with
  | zero =>
    intro p hp
    obtain ⟨d, hd, rfl⟩ := List.mem_map.mp hp
    have hd2 := List.mem_of_mem_take hd
    have h1 := hD.le_head d hd2
    obtain ⟨i, hi, rfl⟩ := List.getElem_of_mem hd2
    have h2 := hD.get (i := i) (d := D[i]) (by simp [hi])
    show len D - D[i] < len D + 0 + 0
    omega
  | succ t ih =>
    intro p hp
    rw [P_succ]
    have hp : p ∈ S b N D t ++ List.range' (P b N D t) (min (b t) (oth N D t)) ++ (if t < gr N D then [P b N D t + min (b t) (oth N D t)] else []) := hp
    rcases List.mem_append.mp hp with hp | hp
    · rcases List.mem_append.mp hp with hp | hp
      · have := ih p hp; omega
      · rw [List.mem_range'_1] at hp; omega
    · split at hp
      · rw [List.mem_singleton] at hp; omega
      · cases hp
theorem take_rel (hn : D.length ≤ N) (hN : 1 ≤ N) : rel N D = D.take (n1 N D) := by
  unfold rel n1
  split
  · rw [List.take_of_length_le (by omega)]
  · have e : D.length = N := by omega
    rw [List.dropLast_eq_take]
    congr 1
    omega
theorem R_of (hD : Ok D) (hn : D.length ≤ N) (hN : 1 ≤ N) (t : Nat) : R b N D t = ofPos (P b N D t) (S b N D t) (C b N D t) := by
  induction t with
  | zero =>
    show rel N D = ((S b N D 0).drop 0).map fun p => (len D + 0 + 0) - p
    rw [take_rel hn hN, List.drop_zero]
    show _ = ((D.take (n1 N D)).map fun d => len D - d).map fun p => (len D + 0 + 0) - p
    rw [List.map_map]
    refine (List.map_id _).symm.trans (List.map_congr_left fun d hd => ?_)
    have := hD.le_head d (List.mem_of_mem_take hd)
    show d = len D + 0 + 0 - (len D - d)
    omega
  | succ t ih =>
    have hl : (R b N D t).length = oth N D t := by rw [ih, ofPos_len, S_len]; omega
    have hlt := S_lt (b := b) (N := N) hD t
    show rel N (app (cars (min (b t) (R b N D t).length) (R b N D t))) = _
    rw [hl, ih, cars_of _ hlt (by rw [S_len]; omega)]
    have hle : ∀ p ∈ S b N D t ++ List.range' (P b N D t) (min (b t) (oth N D t)), p ≤ P b N D t + min (b t) (oth N D t) := fun p hp => by
      rcases List.mem_append.mp hp with hp | hp
      · have := hlt p hp; omega
      · rw [List.mem_range'_1] at hp; omega
    rw [app_of hle (by rw [List.length_append, S_len, List.length_range']; omega), ← P_succ]
    unfold rel
    rw [ofPos_len, List.length_append, List.length_append, S_len, List.length_range', List.length_singleton]
    have ht : (C b N D t + oth N D t + min (b t) (oth N D t) + 1 - (C b N D t + min (b t) (oth N D t)) < N) ↔ t < gr N D := by
      unfold oth gr n1
      omega
    show (if _ then _ else _) = ofPos (P b N D (t + 1)) (S b N D t ++ List.range' (P b N D t) (min (b t) (oth N D t)) ++ (if t < gr N D then [P b N D t + min (b t) (oth N D t)] else [])) (C b N D t + min (b t) (oth N D t))
    by_cases h : t < gr N D
    · rw [if_pos (ht.mpr h), if_pos h]
    · rw [if_neg (fun q => h (ht.mp q)), if_neg h, List.append_nil]
      unfold ofPos
      rw [← List.map_dropLast, List.drop_append_of_le_length (by rw [List.length_append, S_len, List.length_range']; omega)]
      congr 1
      rw [List.dropLast_concat]
theorem S_old (hD : Ok D) (t : Nat) {i d : Nat} (hi : i < n1 N D) (e : D[i]? = some d) : (S b N D t)[i]? = some (len D - d) := by
  induction t with
  | zero =>
    show ((D.take (n1 N D)).map fun d => len D - d)[i]? = _
    rw [List.getElem?_map, List.getElem?_take_of_lt hi, e]
    rfl
  | succ t ih =>
    have hl : i < (S b N D t).length := by rw [S_len]; unfold oth; omega
    show (S b N D t ++ List.range' (P b N D t) (min (b t) (oth N D t)) ++ (if t < gr N D then [P b N D t + min (b t) (oth N D t)] else []))[i]? = _
    rw [List.append_assoc, List.getElem?_append_left hl, ih]
theorem S_new (t : Nat) {i : Nat} (h1 : n1 N D ≤ i) (h2 : i < (S b N D t).length) : ∃ s, s < t ∧ C b N D s + oth N D s ≤ i ∧ i < C b N D (s + 1) + oth N D (s + 1) ∧ (S b N D t)[i]? = some (P b N D s + (i - (C b N D s + oth N D s))) := by
  induction t with
  | zero =>
    rw [S_len] at h2
    have : C b N D 0 + oth N D 0 = n1 N D := by unfold oth; show 0 + (n1 N D + min 0 (gr N D)) = _; omega
    omega
  | succ t ih =>
    have eS : S b N D (t + 1) = S b N D t ++ List.range' (P b N D t) (min (b t) (oth N D t)) ++ (if t < gr N D then [P b N D t + min (b t) (oth N D t)] else []) := rfl
    by_cases hl : i < (S b N D t).length
    · obtain ⟨s, s1, s2, s3, s4⟩ := ih hl
      refine ⟨s, by omega, s2, s3, ?_⟩
      rw [eS, List.append_assoc, List.getElem?_append_left hl, s4]
    · have hl2 := h2
      rw [S_len] at hl2
      rw [S_len] at hl
      refine ⟨t, by omega, by omega, hl2, ?_⟩
      rw [eS, List.append_assoc, List.getElem?_append_right (by rw [S_len]; omega), S_len]
      have hC : C b N D (t + 1) = C b N D t + min (b t) (oth N D t) := rfl
      by_cases hc : i - (C b N D t + oth N D t) < min (b t) (oth N D t)
      · rw [List.getElem?_append_left (by rw [List.length_range']; exact hc), List.getElem?_range' hc]
        simp
      · rw [List.getElem?_append_right (by rw [List.length_range']; omega), List.length_range']
        have hg : t < gr N D := by
          rw [hC] at hl2
          unfold oth at hl2 hc hl
          omega
        rw [if_pos hg]
        have e0 : i - (C b N D t + oth N D t) - min (b t) (oth N D t) = 0 := by
          rw [hC] at hl2
          unfold oth at hl2 hc hl ⊢
          omega
        rw [e0]
        have e1 : i - (C b N D t + oth N D t) = min (b t) (oth N D t) := by omega
        rw [e1]
        rfl
theorem len_R (hD : Ok D) (hn : D.length ≤ N) (hN : 1 ≤ N) (t : Nat) : len (R b N D t) = match (S b N D t)[C b N D t]? with
    | some p => P b N D t - p
    | none => 0 := by
  rw [R_of hD hn hN]
  unfold len ofPos
  rw [List.headD_eq_head?_getD, List.head?_map, List.head?_drop]
  cases (S b N D t)[C b N D t]? <;> rfl
theorem C_mono {s t : Nat} (h : s ≤ t) : C b N D s ≤ C b N D t := by
  induction t with
  | zero => rw [show s = 0 by omega]; exact Nat.le_refl _
  | succ t ih =>
    by_cases e : s = t + 1
    · rw [e]; exact Nat.le_refl _
    · have := ih (by omega)
      show _ ≤ C b N D t + min (b t) (oth N D t)
      omega
theorem cum_mono {s t : Nat} (h : s ≤ t) : cum b s ≤ cum b t := by
  induction t with
  | zero => rw [show s = 0 by omega]; exact Nat.le_refl _
  | succ t ih =>
    by_cases e : s = t + 1
    · rw [e]; exact Nat.le_refl _
    · have := ih (by omega)
      show _ ≤ cum b t + b t
      omega
theorem C_cum {s t : Nat} (h : s ≤ t) : C b N D t + cum b s ≤ C b N D s + cum b t := by
  induction t with
  | zero => rw [show s = 0 by omega]; exact Nat.le_refl _
  | succ t ih =>
    by_cases e : s = t + 1
    · rw [e]; exact Nat.le_refl _
    · have := ih (by omega)
      show C b N D t + min (b t) (oth N D t) + cum b s ≤ C b N D s + (cum b t + b t)
      omega
theorem C_le (t : Nat) : C b N D t ≤ cum b t := by
  have h := C_cum (b := b) (N := N) (D := D) (Nat.zero_le t)
  have e1 : C b N D 0 = 0 := rfl
  have e2 : cum b 0 = 0 := rfl
  omega
theorem C_eq {a t : Nat} (h : a ≤ t) (q : Nat) (hq : ∀ s, a ≤ s → s < t → q ≤ oth N D s) (hC : C b N D t < C b N D a + q) : C b N D t + cum b a = C b N D a + cum b t := by
  induction t with
  | zero => rw [show a = 0 by omega]
  | succ t ih =>
    by_cases e : a = t + 1
    · rw [e]
    · have hat : a ≤ t := by omega
      have e1 : C b N D (t + 1) = C b N D t + min (b t) (oth N D t) := rfl
      have e2 : cum b (t + 1) = cum b t + b t := rfl
      have h1 := ih hat (fun s h1 h2 => hq s h1 (by omega)) (by omega)
      have h2 := hq t hat (by omega)
      have h3 := C_mono (b := b) (N := N) (D := D) hat
      omega
theorem old_iff (t : Nat) : C b N D t < n1 N D ↔ cum b t < n1 N D := by
  constructor
  · intro h
    have := C_eq (b := b) (N := N) (D := D) (Nat.zero_le t) (n1 N D) (fun s _ _ => by unfold oth; omega) (by show _ < 0 + n1 N D; omega)
    have e1 : C b N D 0 = 0 := rfl
    have e2 : cum b 0 = 0 := rfl
    omega
  · intro h
    have := C_le (b := b) (N := N) (D := D) t
    omega
theorem old_eq {t : Nat} (h : C b N D t < n1 N D) : C b N D t = cum b t := by
  have := C_eq (b := b) (N := N) (D := D) (Nat.zero_le t) (n1 N D) (fun s _ _ => by unfold oth; omega) (by show _ < 0 + n1 N D; omega)
  have e1 : C b N D 0 = 0 := rfl
  have e2 : cum b 0 = 0 := rfl
  omega
/-- an old record blocks put t; the budgets before put t are too poor -/
def Bl (b : Nat → Nat) (N : Nat) (D : List Nat) (m t : Nat) : Prop := cum b t < n1 N D ∧ ∃ d, D[cum b t]? = some d ∧ m ≤ d + cum b t + t
def Sh (b : Nat → Nat) (N : Nat) (D : List Nat) (m t : Nat) : Prop := m ≤ D.length + t ∧ (m < N ∨ cum b t < cum b (t - (m - N)) + (N - 1))
theorem len_old (hD : Ok D) (hn : D.length ≤ N) (hN : 1 ≤ N) {t : Nat} (h : C b N D t < n1 N D) : ∃ d, D[C b N D t]? = some d ∧ len (R b N D t) = d + C b N D t + t := by
  have hlt : C b N D t < D.length := by unfold n1 at h; omega
  have e : D[C b N D t]? = some D[C b N D t] := by simp [hlt]
  refine ⟨_, e, ?_⟩
  rw [len_R hD hn hN, S_old hD t h e]
  have := hD.le_head _ (List.getElem_mem hlt)
  show P b N D t - (len D - D[C b N D t]) = _
  unfold P
  omega
theorem len_new (hD : Ok D) (hn : D.length ≤ N) (hN : 1 ≤ N) {t : Nat} (h : n1 N D ≤ C b N D t) (ho : 0 < oth N D t) : ∃ s, s < t ∧ C b N D s + oth N D s ≤ C b N D t ∧ C b N D t < C b N D (s + 1) + oth N D (s + 1) ∧ len (R b N D t) = t - s + oth N D s := by
  obtain ⟨s, s1, s2, s3, s4⟩ := S_new (b := b) (N := N) (D := D) t h (by rw [S_len]; omega)
  refine ⟨s, s1, s2, s3, ?_⟩
  rw [len_R hD hn hN, s4]
  show P b N D t - (P b N D s + (C b N D t - (C b N D s + oth N D s))) = _
  unfold P
  omega
theorem full_iff (hD : Ok D) (hn : D.length ≤ N) (hN : 1 ≤ N) {m : Nat} (hm : 1 ≤ m) (t : Nat) : m ≤ len (R b N D t) ↔ (Bl b N D m t ∨ Sh b N D m t) := by
  have hng : n1 N D + gr N D = N - 1 := by unfold gr n1; omega
  by_cases hold : C b N D t < n1 N D
  · obtain ⟨d, e, el⟩ := len_old hD hn hN hold
    have ec := old_eq hold
    have hc := (old_iff t).mp hold
    rw [el]
    constructor
    · intro h
      exact .inl ⟨hc, d, by rw [← ec]; exact e, by omega⟩
    · rintro (⟨_, d', e', h⟩ | ⟨h, _⟩)
      · rw [← ec, e] at e'
        cases e'
        omega
      · have := (hD.get e).1
        have : C b N D t < D.length := by unfold n1 at hold; omega
        omega
  · have hc : ¬ cum b t < n1 N D := fun q => hold ((old_iff t).mpr q)
    have hge : n1 N D ≤ C b N D t := by omega
    have noB : ¬ Bl b N D m t := fun q => hc q.1
    by_cases ho : 0 < oth N D t
    · obtain ⟨s, s1, s2, s3, el⟩ := len_new hD hn hN hge ho
      rw [el]
      have os : oth N D s = n1 N D + min s (gr N D) := rfl
      have os1 : oth N D (s + 1) = n1 N D + min (s + 1) (gr N D) := rfl
      constructor
      · intro h
        refine .inr ⟨?_, ?_⟩
        · have : n1 N D ≤ D.length := by unfold n1; omega
          omega
        · by_cases hmN : m < N
          · exact .inl hmN
          · refine .inr ?_
            have a1 : s + 1 ≤ t - (m - N) ∧ gr N D ≤ t - (m - N) := by
              by_cases hs : s < gr N D
              · omega
              · omega
            have a2 : t - (m - N) ≤ t := by omega
            have hmn := C_mono (b := b) (N := N) (D := D) a1.1
            have := C_eq (b := b) (N := N) (D := D) a2 (N - 1) (fun r r1 _ => by unfold oth; omega) (by omega)
            omega
      · rintro (h | ⟨h1, h2⟩)
        · exact absurd h noB
        · by_cases hs : s < gr N D
          · have : n1 N D = D.length := by unfold gr n1 at hs; unfold n1; omega
            omega
          · by_cases hmN : m < N
            · omega
            · rcases h2 with h2 | h2
              · exact absurd h2 hmN
              · by_cases hw : t - (m - N) ≤ s
                · have q1 := C_cum (b := b) (N := N) (D := D) (s := t - (m - N)) (t := t) (by omega)
                  have q2 := C_mono (b := b) (N := N) (D := D) hw
                  omega
                · omega
    · have o0 : oth N D t = n1 N D + min t (gr N D) := rfl
      have el : len (R b N D t) = 0 := by
        rw [len_R hD hn hN, List.getElem?_eq_none (by rw [S_len]; omega)]
      rw [el]
      constructor
      · intro h; omega
      · rintro (h | ⟨h1, h2⟩)
        · exact absurd h noB
        · have q := cum_mono (b := b) (s := t - (m - N)) (t := t) (by omega)
          by_cases ht : t = 0
          · subst ht
            have : cum b (0 - (m - N)) = 0 := by rw [Nat.zero_sub]; rfl
            have : cum b 0 = 0 := rfl
            have : n1 N D = 0 := by omega
            unfold n1 at this
            omega
          · have : N = 1 := by omega
            omega
end Lf
namespace Lf
variable {b : Nat → Nat} {N : Nat} {D : List Nat}
/-- the word's depths ahead of put t -/
def Dn (b : Nat → Nat) (N : Nat) (D : List Nat) : Nat → List Nat
  | 0 => D
  | t + 1 => app (cars (min (b t) (rel N (Dn b N D t)).length) (rel N (Dn b N D t)))
theorem R_rel (t : Nat) : R b N D t = rel N (Dn b N D t) := by
  induction t with
  | zero => rfl
  | succ t ih =>
    show rel N (app (cars (min (b t) (R b N D t).length) (R b N D t))) = rel N (app (cars (min (b t) (rel N (Dn b N D t)).length) (rel N (Dn b N D t))))
    rw [ih]
def Safe (b : Nat → Nat) (N : Nat) (D : List Nat) (m : Nat) : Prop := ∀ t, len (R b N D t) < m
theorem Ok.up : ∀ {D : List Nat}, Ok D → Ok (up D ++ [1])
  | [], _ => by show 0 < 1; omega
  | [d], h => by
    have h : 0 < d := h
    show 1 < d + 1 ∧ 0 < 1
    omega
  | d :: e :: r, h => by
    have h1 := h.1
    exact ⟨(by show e + 1 < d + 1; omega : e + 1 < d + 1), Ok.up (D := e :: r) h.2⟩
theorem Ok.app {D : List Nat} (h : Ok D) : Ok (app D) := Ok.up h
theorem Ok.car : ∀ {D : List Nat}, Ok D → Ok (car D)
  | [], _ => trivial
  | d :: r, h => Ok.up (Ok.tail h)
theorem Ok.cars : ∀ (k : Nat) {D : List Nat}, Ok D → Ok (cars k D)
  | 0, _, h => h
  | k + 1, _, h => Ok.cars k (Ok.car h)
theorem Ok.dropLast : ∀ {D : List Nat}, Ok D → Ok D.dropLast
  | [], _ => trivial
  | [d], _ => trivial
  | [d, e], h => by
    have h1 := h.1
    show 0 < d
    omega
  | d :: e :: f :: r, h => ⟨h.1, Ok.dropLast (D := e :: f :: r) h.2⟩
theorem Ok.rel {D : List Nat} (h : Ok D) : Ok (rel N D) := by
  unfold Lf.rel
  split
  · exact h
  · exact Ok.dropLast h
theorem Ok.Dn {D : List Nat} (h : Ok D) (t : Nat) : Ok (Dn b N D t) := by
  induction t with
  | zero => exact h
  | succ t ih => exact Ok.app (Ok.cars _ (Ok.rel ih))
theorem up_len (D : List Nat) : (up D).length = D.length := by unfold up; rw [List.length_map]
theorem app_len (D : List Nat) : (app D).length = D.length + 1 := by unfold app; rw [List.length_append, up_len]; rfl
theorem car_len : ∀ D : List Nat, (car D).length = D.length
  | [] => rfl
  | d :: r => by show (up r ++ [1]).length = _; rw [List.length_append, up_len]; rfl
theorem cars_len : ∀ (k : Nat) (D : List Nat), (cars k D).length = D.length
  | 0, _ => rfl
  | k + 1, D => by show (cars k (car D)).length = _; rw [cars_len k, car_len]
theorem rel_len (hN : 1 ≤ N) (hn : D.length ≤ N) : (rel N D).length ≤ N - 1 ∧ (rel N D).length ≤ D.length := by
  unfold rel
  split
  · omega
  · rw [List.length_dropLast]; omega
theorem Dn_len (hN : 1 ≤ N) (hn : D.length ≤ N) (t : Nat) : (Dn b N D t).length ≤ N := by
  cases t with
  | zero => exact hn
  | succ t =>
    show (app _).length ≤ N
    rw [app_len, cars_len]
    have : (Dn b N D t).length ≤ N := Dn_len hN hn t
    have := (rel_len hN this).1
    omega
theorem len_car : ∀ {D : List Nat}, Ok D → len (car D) ≤ len D
  | [], _ => Nat.le_refl _
  | [d], h => by
    have h : 0 < d := h
    show 1 ≤ d
    omega
  | d :: e :: r, h => by
    have h1 := h.1
    show e + 1 ≤ d
    omega
theorem len_cars : ∀ (k : Nat) {D : List Nat}, Ok D → len (cars k D) ≤ len D
  | 0, _, _ => Nat.le_refl _
  | k + 1, _, h => Nat.le_trans (len_cars k (Ok.car h)) (len_car h)
theorem len_app : ∀ D : List Nat, len (app D) = len D + 1
  | [] => rfl
  | d :: r => rfl
theorem len_rel (D : List Nat) : len (rel N D) ≤ len D := by
  unfold rel
  split
  · exact Nat.le_refl _
  · match D with
    | [] => exact Nat.le_refl _
    | [d] => exact Nat.zero_le _
    | d :: e :: r => exact Nat.le_refl _
theorem len_Dn (hD : Ok D) {m : Nat} (h0 : len D ≤ m) (t : Nat) (h : ∀ s, s < t → len (R b N D s) < m) : len (Dn b N D t) ≤ m := by
  cases t with
  | zero => exact h0
  | succ t =>
    show len (app _) ≤ m
    rw [len_app]
    have h1 := h t (by omega)
    rw [R_rel] at h1
    have h2 := len_cars (min (b t) (rel N (Dn b N D t)).length) (Ok.rel (N := N) (Ok.Dn (b := b) (N := N) hD t))
    omega
/-- where put t is the first to stall, the log is just full -/
theorem len_eq (hD : Ok D) {m : Nat} (h0 : len D ≤ m) {t : Nat} (h : ∀ s, s < t → len (R b N D s) < m) (hf : m ≤ len (R b N D t)) : len (R b N D t) = m := by
  have h1 := len_Dn (b := b) (N := N) hD h0 t h
  have h2 := len_rel (N := N) (Dn b N D t)
  rw [← R_rel] at h2
  omega
theorem Bl_lt {m t : Nat} (hD : Ok D) (hm : 1 ≤ m) (h : Bl b N D m t) : ∃ s, s < m ∧ Bl b N D m s := by
  by_cases ht : t < m
  · exact ⟨t, ht, h⟩
  · obtain ⟨h1, d, e, h2⟩ := h
    have hc := cum_mono (b := b) (s := m - 1) (t := t) (by omega)
    have hlt : cum b (m - 1) < D.length := by unfold n1 at h1; omega
    refine ⟨m - 1, by omega, by omega, D[cum b (m - 1)], by simp [hlt], ?_⟩
    have := hD.get (i := cum b (m - 1)) (d := D[cum b (m - 1)]) (by simp [hlt])
    omega
theorem cum_add (a k : Nat) : cum b (a + k) = cum b a + cum (fun s => b (a + s)) k := by
  induction k with
  | zero => rfl
  | succ k ih =>
    show cum b (a + k) + b (a + k) = _ + (cum (fun s => b (a + s)) k + b (a + k))
    omega
theorem cum_congr {b c : Nat → Nat} (h : ∀ s, b s = c s) (t : Nat) : cum b t = cum c t := by
  induction t with
  | zero => rfl
  | succ t ih => show cum b t + b t = cum c t + c t; rw [ih, h]
theorem Sh_win {m t : Nat} (hn : D.length ≤ N) (hmN : N ≤ m) : Sh b N D m t ↔ m ≤ D.length + t ∧ cum (fun s => b (t - (m - N) + s)) (m - N) < N - 1 := by
  unfold Sh
  constructor
  · rintro ⟨h1, h2 | h2⟩
    · omega
    · refine ⟨h1, ?_⟩
      have := cum_add (b := b) (t - (m - N)) (m - N)
      rw [show t - (m - N) + (m - N) = t by omega] at this
      omega
  · rintro ⟨h1, h2⟩
    refine ⟨h1, .inr ?_⟩
    have := cum_add (b := b) (t - (m - N)) (m - N)
    rw [show t - (m - N) + (m - N) = t by omega] at this
    omega
theorem per_mod {L : Nat} (hL : 0 < L) (hb : ∀ t, b (t + L) = b t) (q t : Nat) : b (t + q * L) = b t := by
  induction q with
  | zero => rw [Nat.zero_mul]; rfl
  | succ q ih => rw [Nat.succ_mul, ← Nat.add_assoc, hb, ih]
theorem Sh_lt {m t L : Nat} (hn : D.length ≤ N) (hL : 0 < L) (hb : ∀ t, b (t + L) = b t) (h : Sh b N D m t) : ∃ s, m - D.length ≤ s ∧ s < m - D.length + L ∧ Sh b N D m s := by
  by_cases hmN : m < N
  · exact ⟨m - D.length, Nat.le_refl _, by omega, by omega, .inl hmN⟩
  · have hmN : N ≤ m := by omega
    obtain ⟨h1, h2⟩ := (Sh_win hn hmN).mp h
    -- t brought down by whole rounds
    refine ⟨m - D.length + (t - (m - D.length)) % L, by omega, by have := Nat.mod_lt (t - (m - D.length)) hL; omega, (Sh_win hn hmN).mpr ⟨by omega, ?_⟩⟩
    have e : t = m - D.length + (t - (m - D.length)) % L + (t - (m - D.length)) / L * L := by
      have := Nat.mod_add_div (t - (m - D.length)) L
      rw [Nat.mul_comm] at this
      omega
    have ec : cum (fun s => b (t - (m - N) + s)) (m - N) = cum (fun s => b (m - D.length + (t - (m - D.length)) % L - (m - N) + s)) (m - N) := cum_congr (fun s => by
      rw [show t - (m - N) + s = (m - D.length + (t - (m - D.length)) % L - (m - N) + s) + (t - (m - D.length)) / L * L by omega, per_mod hL hb]) _
    omega
theorem safe_iff (hD : Ok D) (hn : D.length ≤ N) (hN : 1 ≤ N) {m L : Nat} (hm : 1 ≤ m) (hL : 0 < L) (hb : ∀ t, b (t + L) = b t) :
    Safe b N D m ↔ (∀ t, t < m → ¬ Bl b N D m t) ∧ (∀ t, m - D.length ≤ t → t < m - D.length + L → ¬ Sh b N D m t) := by
  constructor
  · intro h
    refine ⟨fun t _ q => ?_, fun t _ _ q => ?_⟩
    · have := (full_iff hD hn hN hm t).mpr (.inl q)
      have := h t
      omega
    · have := (full_iff hD hn hN hm t).mpr (.inr q)
      have := h t
      omega
  · rintro ⟨h1, h2⟩ t
    have hf : ¬ m ≤ len (R b N D t) := fun q => by
      rcases (full_iff hD hn hN hm t).mp q with q | q
      · obtain ⟨s, s1, s2⟩ := Bl_lt hD hm q
        exact h1 s s1 s2
      · obtain ⟨s, s1, s2, s3⟩ := Sh_lt hn hL hb q
        exact h2 s s1 s2 s3
    omega
/-- a standing that is not safe stalls soon -/
theorem stall_soon (hD : Ok D) (hn : D.length ≤ N) (hN : 1 ≤ N) {m L : Nat} (hm : 1 ≤ m) (hL : 0 < L) (hb : ∀ t, b (t + L) = b t) (h : ¬ Safe b N D m) : ∃ t, t < m + L ∧ m ≤ len (R b N D t) ∧ ∀ s, s < t → len (R b N D s) < m := by
  have h0 : ∃ t, t < m + L ∧ m ≤ len (R b N D t) := by
    apply Classical.byContradiction
    intro q
    refine h ((safe_iff hD hn hN hm hL hb).mpr ⟨fun t ht z => q ⟨t, by omega, (full_iff hD hn hN hm t).mpr (.inl z)⟩, fun t h1 h2 z => q ⟨t, by omega, (full_iff hD hn hN hm t).mpr (.inr z)⟩⟩)
  obtain ⟨t, ht, hf⟩ := h0
  induction t using Nat.strongRecOn with
  | ind t ih =>
    by_cases hs : ∃ s, s < t ∧ m ≤ len (R b N D s)
    · obtain ⟨s, s1, s2⟩ := hs
      exact ih s s1 (by omega) s2
    · exact ⟨t, ht, hf, fun s s1 => by
        have : ¬ m ≤ len (R b N D s) := fun q => hs ⟨s, s1, q⟩
        omega⟩
theorem Dn_shift (a k : Nat) : Dn b N D (a + k) = Dn (fun s => b (a + s)) N (Dn b N D a) k := by
  induction k with
  | zero => rfl
  | succ k ih =>
    show app (cars (min (b (a + k)) (rel N (Dn b N D (a + k))).length) (rel N (Dn b N D (a + k)))) = _
    rw [ih]
    rfl
theorem R_shift (a k : Nat) : R b N D (a + k) = R (fun s => b (a + s)) N (Dn b N D a) k := by rw [R_rel, R_rel, Dn_shift]
theorem Safe.after (h : Safe b N D m) (a : Nat) : Safe (fun s => b (a + s)) N (Dn b N D a) m := fun t => by
  have := h (a + t)
  rw [R_shift] at this
  exact this
theorem back {L a t : Nat} (hb : ∀ t, b (t + L) = b t) (e : Dn b N D a = Dn b N D (a + L)) (h : a + L ≤ t) : R b N D t = R b N D (t - L) := by
  have h1 : R b N D t = R (fun s => b (a + L + s)) N (Dn b N D (a + L)) (t - (a + L)) := by rw [← R_shift]; congr 1; omega
  have h2 : R b N D (t - L) = R (fun s => b (a + s)) N (Dn b N D a) (t - (a + L)) := by rw [← R_shift]; congr 1; omega
  rw [h1, h2, e]
  congr 1
  funext s
  rw [show a + L + s = a + s + L by omega, hb]
end Lf
namespace Lf
variable {b : Nat → Nat} {N : Nat} {D E : List Nat}
/-- D is at least as good as E -/
def Dom (D E : List Nat) : Prop := D.length ≤ E.length ∧ ∀ (i d : Nat), D[i]? = some d → ∃ e, E[i]? = some e ∧ d ≤ e
theorem Dom.refl : Dom D D := ⟨Nat.le_refl _, fun i d e => ⟨d, e, Nat.le_refl _⟩⟩
theorem Dom.trans {F : List Nat} (h : Dom D E) (k : Dom E F) : Dom D F := ⟨Nat.le_trans h.1 k.1, fun i d e => by
  obtain ⟨x, e1, h1⟩ := h.2 i d e
  obtain ⟨y, e2, h2⟩ := k.2 i x e1
  exact ⟨y, e2, by omega⟩⟩
theorem Dom.head {d e : Nat} {r s : List Nat} (h : Dom (d :: r) (e :: s)) : d ≤ e ∧ Dom r s := by
  refine ⟨?_, by have := h.1; simp only [List.length_cons] at this; omega, fun i x hx => h.2 (i + 1) x hx⟩
  obtain ⟨y, e1, h1⟩ := h.2 0 d rfl
  cases e1
  exact h1
theorem Dom.len (h : Dom D E) : len D ≤ len E := by
  match D, E, h with
  | [], _, _ => exact Nat.zero_le _
  | d :: r, [], h => have := h.1; simp at this
  | d :: r, e :: s, h => exact h.head.1
theorem up_get (D : List Nat) (i : Nat) : (up D)[i]? = (D[i]?).map (· + 1) := by unfold up; rw [List.getElem?_map]
theorem app_get (D : List Nat) (i : Nat) : (app D)[i]? = if i < D.length then (D[i]?).map (· + 1) else if i = D.length then some 1 else none := by
  unfold app
  by_cases h : i < D.length
  · rw [if_pos h, List.getElem?_append_left (by rw [up_len]; exact h), up_get]
  · rw [if_neg h, List.getElem?_append_right (by rw [up_len]; omega), up_len]
    by_cases e : i = D.length
    · rw [if_pos e, e, Nat.sub_self]; rfl
    · rw [if_neg e, List.getElem?_eq_none (by simp; omega)]
theorem Dom.app (h : Dom D E) : Dom (app D) (app E) := by
  refine ⟨by rw [app_len, app_len]; have := h.1; omega, fun i d e => ?_⟩
  rw [app_get] at e
  rw [app_get]
  split at e
  · rename_i hi
    cases q : D[i]? with
    | none => rw [q] at e; cases e
    | some x =>
      rw [q] at e
      cases e
      obtain ⟨y, e2, h2⟩ := h.2 i x q
      have hiE : i < E.length := by have := h.1; omega
      rw [if_pos hiE, e2]
      exact ⟨y + 1, rfl, (by omega : x + 1 ≤ y + 1)⟩
  · split at e
    · rename_i hi
      cases e
      by_cases hiE : i < E.length
      · rw [if_pos hiE]
        refine ⟨E[i] + 1, by simp [hiE], by omega⟩
      · rw [if_neg hiE, if_pos (by have := h.1; omega)]
        exact ⟨1, rfl, Nat.le_refl _⟩
    · cases e
theorem car_cons (d : Nat) (r : List Nat) : car (d :: r) = app r := rfl
theorem Dom.car (h : Dom D E) : Dom (car D) (car E) := by
  match D, E, h with
  | [], E, h => exact ⟨by show 0 ≤ _; omega, fun i d e => by simp [Lf.car] at e⟩
  | d :: r, [], h => have := h.1; simp at this
  | d :: r, e :: s, h => rw [car_cons, car_cons]; exact h.head.2.app
theorem Dom.cars : ∀ (k : Nat) {D E : List Nat}, Dom D E → Dom (cars k D) (cars k E)
  | 0, _, _, h => h
  | k + 1, _, _, h => Dom.cars k h.car
/-- k records that stand side by side -/
def pack (D : List Nat) : Prop := ∀ (i d : Nat), D[i]? = some d → d = D.length - i
theorem pack.dom (hD : pack D) (hE : Ok E) (h : D.length ≤ E.length) : Dom D E := by
  refine ⟨h, fun i d e => ?_⟩
  have hi : i < D.length := (List.getElem?_eq_some_iff.mp e).1
  refine ⟨E[i]'(by omega), by simp [show i < E.length by omega], ?_⟩
  have := (hE.get (i := i) (d := E[i]'(by omega)) (by simp [show i < E.length by omega])).1
  have := hD i d e
  omega
/-- the last k of D stand side by side -/
def packL (k : Nat) (D : List Nat) : Prop := ∀ (i d : Nat), D.length - k ≤ i → D[i]? = some d → d = D.length - i
theorem packL.car {k : Nat} (h : packL k D) (hk : k < D.length) : packL (k + 1) (car D) := by
  match D, h, hk with
  | d :: r, h, hk =>
    rw [car_cons]
    intro i x hi hx
    rw [app_len] at hi ⊢
    rw [app_get] at hx
    split at hx
    · rename_i hir
      cases q : r[i]? with
      | none => rw [q] at hx; cases hx
      | some y =>
        rw [q] at hx
        cases hx
        have := h (i + 1) y (by simp only [List.length_cons]; omega) q
        simp only [List.length_cons] at this
        show y + 1 = r.length + 1 - i
        omega
    · split at hx
      · cases hx; omega
      · cases hx
theorem packL_cars : ∀ (k j : Nat) {D : List Nat}, packL j D → j + k ≤ D.length → packL (j + k) (cars k D)
  | 0, j, D, h, _ => h
  | k + 1, j, D, h, hk => by
    have := packL_cars k (j + 1) (h.car (by omega)) (by rw [car_len]; omega)
    rw [show j + (k + 1) = j + 1 + k by omega]
    exact this
theorem pack_cars (D : List Nat) : pack (cars D.length D) := by
  have h : packL (0 + D.length) (cars D.length D) := packL_cars D.length 0 (fun i d hi e => by
    have := (List.getElem?_eq_some_iff.mp e).1
    omega) (by omega)
  intro i d e
  exact h i d (by rw [cars_len]; omega) e
/-- whatever is put, the greedy answer is at least as good as against the newest play -/
theorem dom_put (h : Dom D E) (hE : Ok E) (k : Nat) : Dom (app (cars (min k D.length) D)) (app (cars (min k E.length) E)) := by
  have hl := h.1
  refine Dom.app ?_
  by_cases hk : k ≤ D.length
  · rw [Nat.min_eq_left hk, Nat.min_eq_left (by omega)]
    exact h.cars k
  · rw [Nat.min_eq_right (by omega)]
    refine (pack_cars D).dom (Ok.cars _ hE) ?_
    rw [cars_len, cars_len]; exact hl
theorem Bl.mono {m t : Nat} (h : Dom D E) (q : Bl b N D m t) : Bl b N E m t := by
  obtain ⟨h1, d, e, h2⟩ := q
  obtain ⟨x, e1, h3⟩ := h.2 _ d e
  refine ⟨?_, x, e1, by omega⟩
  have := h.1
  unfold n1 at h1 ⊢
  omega
theorem Sh.mono {m t : Nat} (h : Dom D E) (q : Sh b N D m t) : Sh b N E m t := ⟨by have := h.1; have := q.1; omega, q.2⟩
theorem Safe.dom {m : Nat} (hm : 1 ≤ m) (hN : 1 ≤ N) (hD : Ok D) (hE : Ok E) (hn : E.length ≤ N) (h : Dom D E) (q : Safe b N E m) : Safe b N D m := fun t => by
  have hf : ¬ m ≤ len (R b N D t) := fun z => by
    have := q t
    rcases (full_iff hD (by have := h.1; omega) hN hm t).mp z with z | z
    · have := (full_iff hE hn hN hm t).mpr (.inl (z.mono h))
      omega
    · have := (full_iff hE hn hN hm t).mpr (.inr (z.mono h))
      omega
  omega
/-- the others behind a possible move -/
def Move (N : Nat) (E D : List Nat) : Prop := (E.length < N ∧ D = E) ∨ ∃ i, i < E.length ∧ D = E.eraseIdx i
theorem Ok.falls : ∀ {D : List Nat}, Ok D → ∀ {i x y : Nat}, D[i]? = some x → D[i + 1]? = some y → y < x
  | [], _, i, x, y, e, _ => by simp at e
  | [d], _, i, x, y, e, e2 => by simp at e2
  | d :: e :: r, h, 0, x, y, e1, e2 => by cases e1; cases e2; exact h.1
  | d :: e :: r, h, i + 1, x, y, e1, e2 => Ok.falls (D := e :: r) h.2 (i := i) e1 e2
theorem Ok_of : ∀ {D : List Nat}, (∀ (i x y : Nat), D[i]? = some x → D[i + 1]? = some y → y < x) → (∀ (i x : Nat), D[i]? = some x → 0 < x) → Ok D
  | [], _, _ => trivial
  | [d], _, h => h 0 d rfl
  | d :: e :: r, h, k => ⟨h 0 d e rfl rfl, Ok_of (D := e :: r) (fun i x y a b => h (i + 1) x y a b) fun i x a => k (i + 1) x a⟩
theorem erase_get (D : List Nat) (i k : Nat) : (D.eraseIdx i)[k]? = if k < i then D[k]? else D[k + 1]? := by rw [List.getElem?_eraseIdx]
theorem Ok.erase (h : Ok D) (i : Nat) : Ok (D.eraseIdx i) := by
  have step : ∀ {k x y : Nat}, D[k]? = some x → D[k + 2]? = some y → y < x := fun {k x y} e1 e2 => by
    have hk : k + 1 < D.length := by have := (List.getElem?_eq_some_iff.mp e2).1; omega
    have a := h.falls e1 (y := D[k + 1]) (by simp [hk])
    have b := h.falls (i := k + 1) (x := D[k + 1]) (by simp [hk]) e2
    omega
  refine Ok_of (fun k x y e1 e2 => ?_) fun k x e1 => ?_
  · rw [erase_get] at e1 e2
    by_cases h1 : k < i
    · rw [if_pos h1] at e1
      by_cases h2 : k + 1 < i
      · rw [if_pos h2] at e2; exact h.falls e1 e2
      · rw [if_neg h2] at e2; exact step e1 e2
    · rw [if_neg h1] at e1
      rw [if_neg (by omega)] at e2
      exact h.falls e1 e2
  · rw [erase_get] at e1
    split at e1
    · exact (h.get e1).2
    · exact (h.get e1).2
theorem erase_dom (h : Ok E) (i : Nat) (hi : i < E.length) : Dom (E.eraseIdx i) E ∧ (E.eraseIdx i).length = E.length - 1 := by
  have hl : (E.eraseIdx i).length = E.length - 1 := List.length_eraseIdx_of_lt hi
  refine ⟨⟨by omega, fun k d e => ?_⟩, hl⟩
  have hk : k < E.length - 1 := by rw [← hl]; exact (List.getElem?_eq_some_iff.mp e).1
  rw [erase_get] at e
  refine ⟨E[k]'(by omega), by simp [show k < E.length by omega], ?_⟩
  by_cases h1 : k < i
  · rw [if_pos h1] at e
    have : d = E[k]'(by omega) := by simpa [show k < E.length by omega] using e.symm
    omega
  · rw [if_neg h1] at e
    have := h.falls (i := k) (x := E[k]'(by omega)) (by simp [show k < E.length by omega]) e
    omega
theorem move_dom (hN : 1 ≤ N) (hE : Ok E) (hn : E.length ≤ N) (h : Move N E D) : Dom D (rel N E) ∧ Ok D ∧ D.length ≤ N - 1 := by
  rcases h with ⟨h1, rfl⟩ | ⟨i, hi, rfl⟩
  · refine ⟨?_, hE, by omega⟩
    unfold rel
    rw [if_pos h1]
    exact Dom.refl
  · obtain ⟨d1, d2⟩ := erase_dom hE i hi
    refine ⟨?_, hE.erase i, by omega⟩
    unfold rel
    split
    · exact d1
    · refine ⟨by rw [List.length_dropLast]; omega, fun k d e => ?_⟩
      have hk : k < E.length - 1 := by rw [← d2]; exact (List.getElem?_eq_some_iff.mp e).1
      obtain ⟨x, e1, h1⟩ := d1.2 k d e
      refine ⟨x, ?_, h1⟩
      rw [List.getElem?_dropLast, if_pos hk]
      exact e1
/-- from a safe standing every possible put leads on, greedily, to a safe one -/
theorem Safe.put {m : Nat} (hm : 1 ≤ m) (hN : 1 ≤ N) (hE : Ok E) (hn : E.length ≤ N) (h : Move N E D) (q : Safe b N E m) :
    len D < m ∧ Safe (fun s => b (1 + s)) N (app (cars (min (b 0) D.length) D)) m := by
  obtain ⟨hd, hD, hl⟩ := move_dom hN hE hn h
  have h0 := q 0
  have e0 : R b N E 0 = rel N E := rfl
  rw [e0] at h0
  refine ⟨Nat.lt_of_le_of_lt hd.len h0, ?_⟩
  have q1 := q.after 1
  have e1 : Dn b N E 1 = app (cars (min (b 0) (rel N E).length) (rel N E)) := rfl
  rw [e1] at q1
  refine Safe.dom hm hN (Ok.app (Ok.cars _ hD)) (Ok.app (Ok.cars _ (Ok.rel hE))) ?_ (dom_put hd (Ok.rel hE) (b 0)) q1
  rw [app_len, cars_len]
  have := (rel_len hN hn).1
  omega
/-- where each m - N budgets in a row give N - 1, the empty log is safe -/
theorem Safe.nil {m : Nat} (hm : 1 ≤ m) (hN : 1 ≤ N) (hmN : N ≤ m) (h : ∀ a, N - 1 ≤ cum (fun s => b (a + s)) (m - N)) : Safe b N [] m := fun t => by
  have hf : ¬ m ≤ len (R b N [] t) := fun z => by
    rcases (full_iff (D := []) trivial (Nat.zero_le _) hN hm t).mp z with z | z
    · have := z.1
      simp [n1] at this
    · obtain ⟨_, h2⟩ := (Sh_win (Nat.zero_le _) hmN).mp z
      have := h (t - (m - N))
      omega
  omega
end Lf
namespace Lw
open PySem PySem.Spec PyProof.Rows L2 Cy Tx
def dl : List Nat → List Nat
  | [] => []
  | c :: r => if c = 49 then (r.length + 1) :: dl r else dl r
theorem dl_len : ∀ l : List Nat, (dl l).length = l.count 49
  | [] => rfl
  | c :: r => by
    unfold dl
    by_cases h : c = 49
    · rw [if_pos h, List.length_cons, dl_len r, h, List.count_cons_self]
    · rw [if_neg h, dl_len r, List.count_cons_of_ne (fun e => h (by first | exact e | exact e.symm))]
theorem dl_le : ∀ (l : List Nat), ∀ d ∈ dl l, 0 < d ∧ d ≤ l.length
  | [], d, h => by cases h
  | c :: r, d, h => by
    unfold dl at h
    by_cases e : c = 49
    · rw [if_pos e] at h
      rcases List.mem_cons.mp h with h | h
      · subst h; simp
      · have := dl_le r d h
        simp only [List.length_cons]; omega
    · rw [if_neg e] at h
      have := dl_le r d h
      simp only [List.length_cons]; omega
theorem ok_cons {d : Nat} {D : List Nat} (h0 : 0 < d) (h : ∀ x ∈ D, x < d) (k : Lf.Ok D) : Lf.Ok (d :: D) := by
  cases D with
  | nil => exact h0
  | cons e r => exact ⟨h e (List.mem_cons_self ..), k⟩
theorem dl_ok : ∀ l : List Nat, Lf.Ok (dl l)
  | [] => trivial
  | c :: r => by
    unfold dl
    by_cases e : c = 49
    · rw [if_pos e]
      exact ok_cons (by omega) (fun x hx => by have := dl_le r x hx; omega) (dl_ok r)
    · rw [if_neg e]
      exact dl_ok r
theorem dl_app (c : Nat) : ∀ l : List Nat, dl (l ++ [c]) = if c = 49 then Lf.app (dl l) else Lf.up (dl l)
  | [] => by
    show dl [c] = _
    unfold dl
    by_cases h : c = 49
    · rw [if_pos h, if_pos h]; rfl
    · rw [if_neg h, if_neg h]; rfl
  | a :: r => by
    have ih := dl_app c r
    rw [List.cons_append]
    unfold dl
    rw [ih, List.length_append, List.length_singleton]
    by_cases h : a = 49
    · rw [if_pos h, if_pos h]
      by_cases hc : c = 49
      · rw [if_pos hc, if_pos hc]; rfl
      · rw [if_neg hc, if_neg hc]; rfl
    · rw [if_neg h, if_neg h]
theorem dl_drop0 : ∀ l : List Nat, dl (l.dropWhile (· == 48)) = dl l
  | [] => rfl
  | a :: r => by
    cases h : (a == 48) with
    | true =>
      have e : a = 48 := by simpa using h
      have e2 : (a :: r).dropWhile (· == 48) = r.dropWhile (· == 48) := by simp only [List.dropWhile, h]
      rw [e2, dl_drop0 r]
      show dl r = if a = 49 then _ else dl r
      rw [if_neg (by omega)]
    | false =>
      have e2 : (a :: r).dropWhile (· == 48) = a :: r := by simp only [List.dropWhile, h]
      rw [e2]
theorem dl_head {l : List Nat} (h : okL l = true) : Lf.len (dl l) = l.length := by
  cases l with
  | nil => rfl
  | cons a r =>
    unfold okL at h
    rw [Bool.and_eq_true, List.all_cons, Bool.and_eq_true] at h
    have ha : a = 49 := by
      have h1 : ¬ a = 48 := by simpa using h.1
      have h2 : a = 48 ∨ a = 49 := by simpa [Bit] using h.2.1
      omega
    unfold dl
    rw [if_pos ha]
    rfl
def dep (z : Str) : List Nat := dl (ls z)
theorem dep_ok (z : Str) : Lf.Ok (dep z) := dl_ok _
theorem dep_len (z : Str) : Txt.count z "1" = ((dep z).length : Int) := by rw [count1]; unfold dep; rw [dl_len]
theorem dep_head {z : Str} (h : okW z = true) : Lf.len (dep z) = z.length := by rw [okW_eq] at h; unfold dep; rw [dl_head h, ls_len]
theorem str_ne {z : Str} (h : ¬ z = "") : ls z ≠ [] := fun e => h (len_zero (by rw [ls_len, e]; rfl))
theorem e_ls : ls ("" : Str) = [] := by decide +kernel
theorem dep_nil {z : Str} (h : dep z = []) (ok : okW z = true) : z = "" := by
  have := dep_head ok
  rw [h] at this
  exact len_zero this.symm
theorem dep_e : dep "" = [] := by unfold dep; rw [e_ls]; rfl
/-- the oldest record carried -/
def lc (z : Str) : Str := Txt.lstripChars (cutS z (some 1) none ++ "1") "0"
theorem lc_ls (z : Str) : ls (lc z) = ((ls z).drop 1 ++ [49]).dropWhile (· == 48) := by unfold lc; rw [lstrip0, ls_app, ls_one, cut_ls]
theorem lc_ok {z : Str} (h : okW z = true) : okW (lc z) = true := by
  rw [okW_eq, lc_ls]
  refine dw_ok ?_
  rw [List.all_append]
  have : ((ls z).drop 1).all Bit = true := List.all_eq_true.mpr fun c hc => List.all_eq_true.mp (ok_all h) c (List.mem_of_mem_drop hc)
  rw [this]
  rfl
theorem lc_dw {z : Str} (h : okW z = true) (n : ¬ z = "") : dep (lc z) = Lf.car (dep z) := by
  have hn := str_ne n
  unfold dep
  rw [lc_ls, dl_drop0, dl_app, if_pos rfl]
  rw [okW_eq] at h
  cases e : ls z with
  | nil => exact absurd e hn
  | cons a r =>
    rw [e] at h
    have ha : a = 49 := by
      unfold okL at h
      rw [Bool.and_eq_true, List.all_cons, Bool.and_eq_true] at h
      have h1 : ¬ a = 48 := by simpa using h.1
      have h2 : a = 48 ∨ a = 49 := by simpa [Bit] using h.2.1
      omega
    show Lf.app (dl r) = Lf.car (dl (a :: r))
    unfold dl
    rw [if_pos ha]
    cases r with
    | nil => rfl
    | cons _ _ => rfl
theorem lc_ne (z : Str) : ¬ lc z = "" := fun e => by
  have h : ls (lc z) = [] := by rw [e, e_ls]
  have h2 : dl (ls (lc z)) = [] := by rw [h]; rfl
  rw [lc_ls, dl_drop0, dl_app, if_pos rfl] at h2
  unfold Lf.app at h2
  simp at h2
theorem lc_len {z : Str} (h : okW z = true) (n : ¬ z = "") : (lc z).length ≤ z.length := by
  rw [← dep_head h, ← dep_head (lc_ok h), lc_dw h n]
  exact Lf.len_car (dep_ok z)
def lcs : Nat → Str → Str
  | 0, z => z
  | k + 1, z => lcs k (lc z)
theorem lcs_all : ∀ (k : Nat) {z : Str}, okW z = true → (k = 0 ∨ ¬ z = "") → okW (lcs k z) = true ∧ dep (lcs k z) = Lf.cars k (dep z) ∧ (lcs k z).length ≤ z.length ∧ (z = "" ↔ lcs k z = "")
  | 0, z, h, _ => ⟨h, rfl, Nat.le_refl _, Iff.rfl⟩
  | k + 1, z, h, n => by
    have n : ¬ z = "" := by rcases n with n | n; omega; exact n
    obtain ⟨a, b, c, d⟩ := lcs_all k (lc_ok h) (.inr (lc_ne z))
    refine ⟨a, ?_, Nat.le_trans c (lc_len h n), ?_⟩
    · show dep (lcs k (lc z)) = Lf.cars k (Lf.car (dep z))
      rw [b, lc_dw h n]
    · show z = "" ↔ lcs k (lc z) = ""
      constructor
      · intro e; exact absurd e n
      · intro e; exact absurd (d.mpr e) (lc_ne z)
theorem lcs_succ (k : Nat) : ∀ z : Str, lcs (k + 1) z = lc (lcs k z) := by
  induction k with
  | zero => intro z; rfl
  | succ k ih => intro z; show lcs (k + 1) (lc z) = _; rw [ih]; rfl
theorem carW_lc {z : Str} {n : Int} (h1 : ¬ z = "") (h2 : (z.length : Int) < n) : carW z n = lc z := by
  unfold carW
  rw [if_neg (by rintro (h | h); exact h1 h; omega)]
  rfl
/-- a record appended -/
theorem apd_dw (z : Str) : dep (z ++ "1") = Lf.app (dep z) := by unfold dep; rw [ls_app, ls_one, dl_app, if_pos rfl]
theorem apd_okW {z : Str} (h : okW z = true) : okW (z ++ "1") = true := by
  rw [okW_eq, ls_app, ls_one]
  rw [okW_eq] at h
  cases e : ls z with
  | nil => decide
  | cons a r =>
    rw [e] at h
    exact okL_app h (by simp) (by decide)
theorem apd_strip {z : Str} (h : okW z = true) : Txt.lstripChars (z ++ "1") "0" = z ++ "1" := by
  refine ls_ext ?_
  rw [lstrip0]
  have hk := apd_okW h
  rw [okW_eq] at hk
  generalize ls (z ++ "1") = l at hk
  cases l with
  | nil => rfl
  | cons a r =>
    unfold okL at hk
    rw [Bool.and_eq_true] at hk
    have : (a == 48) = false := by simpa using hk.1
    simp only [List.dropWhile, this]
def relL (l : List Nat) (p : Nat) : List Nat := (l.take p ++ [48] ++ l.drop (p + 1)).dropWhile (· == 48)
theorem dl_set : ∀ (l : List Nat) (i d : Nat), (dl l)[i]? = some d → d ≤ l.length ∧ l[l.length - d]? = some 49 ∧ dl (l.take (l.length - d) ++ [48] ++ l.drop (l.length - d + 1)) = (dl l).eraseIdx i
  | [], i, d, e => by simp [dl] at e
  | c :: r, i, d, e => by
    unfold dl at e
    by_cases hc : c = 49
    · rw [if_pos hc] at e
      cases i with
      | zero =>
        cases e
        rw [List.length_cons]
        refine ⟨Nat.le_refl _, ?_, ?_⟩
        · rw [Nat.sub_self, hc]; rfl
        · rw [Nat.sub_self]
          show dl (48 :: r) = (dl (c :: r)).eraseIdx 0
          conv => rhs; unfold dl
          rw [if_pos hc]
          rfl
      | succ i =>
        have e : (dl r)[i]? = some d := e
        obtain ⟨h1, h2, h3⟩ := dl_set r i d e
        have es : (c :: r).length - d = r.length - d + 1 := by rw [List.length_cons]; omega
        refine ⟨by rw [List.length_cons]; omega, by rw [es]; exact h2, ?_⟩
        rw [es]
        show dl (c :: (r.take (r.length - d) ++ [48] ++ r.drop (r.length - d + 1))) = (dl (c :: r)).eraseIdx (i + 1)
        unfold dl
        rw [if_pos hc, if_pos hc, h3]
        have hl : (r.take (r.length - d) ++ [48] ++ r.drop (r.length - d + 1)).length = r.length := by
          have := (List.getElem?_eq_some_iff.mp h2).1
          rw [List.length_append, List.length_append, List.length_take, List.length_drop, List.length_singleton]
          omega
        rw [hl]
        rfl
    · rw [if_neg hc] at e
      obtain ⟨h1, h2, h3⟩ := dl_set r i d e
      have es : (c :: r).length - d = r.length - d + 1 := by rw [List.length_cons]; omega
      refine ⟨by rw [List.length_cons]; omega, by rw [es]; exact h2, ?_⟩
      rw [es]
      show dl (c :: (r.take (r.length - d) ++ [48] ++ r.drop (r.length - d + 1))) = (dl (c :: r)).eraseIdx i
      unfold dl
      rw [if_neg hc, if_neg hc, h3]
theorem cut_to (z : Str) (p : Nat) : ls (cutS z none (some (p : Int))) = (ls z).take p := by
  unfold cutS
  show (List.take _ (List.drop _ z.cps.toList)).toArray.toList = z.cps.toList.take p
  rw [HT.sIx_none, HT.sIx_nat, List.drop_zero, Nat.sub_zero, List.toList_toArray, ls_len z]
  show List.take (min p z.cps.toList.length) z.cps.toList = _
  by_cases h : p ≤ z.cps.toList.length
  · rw [Nat.min_eq_left h]
  · rw [Nat.min_eq_right (by omega), List.take_of_length_le (Nat.le_refl _), List.take_of_length_le (by omega)]
theorem cut_from (z : Str) (p : Nat) : ls (cutS z (some (p : Int)) none) = (ls z).drop p := by
  unfold cutS
  show (List.take _ (List.drop _ z.cps.toList)).toArray.toList = z.cps.toList.drop p
  rw [HT.sIx_none, HT.sIx_nat, List.toList_toArray, ls_len z]
  show List.take (z.cps.toList.length - min p z.cps.toList.length) (z.cps.toList.drop (min p z.cps.toList.length)) = _
  by_cases h : p ≤ z.cps.toList.length
  · rw [Nat.min_eq_left h]
    exact List.take_of_length_le (by rw [List.length_drop]; exact Nat.le_refl _)
  · rw [Nat.min_eq_right (by omega), List.drop_length, List.take_nil, List.drop_eq_nil_of_le (by omega)]
/-- the word with its i-th one (from the tail) a zero -/
def rlW (z : Str) (i : Nat) : Str := SX.S (relL (ls z) (z.length - (dep z).getD i 0))
theorem rlW_of {z : Str} {i d : Nat} (e : (dep z)[i]? = some d) : Txt.lstripChars (cutS z none (some ((z.length - d : Nat) : Int)) ++ "0" ++ cutS z (some ((z.length - d + 1 : Nat) : Int)) none) "0" = rlW z i := by
  refine ls_ext ?_
  have e0 : ls ("0" : Str) = [48] := by decide +kernel
  rw [lstrip0, ls_app, ls_app, cut_to, cut_from, e0]
  unfold rlW
  rw [List.getD_eq_getElem?_getD, e]
  rfl
theorem rlW_all {z : Str} {i : Nat} (h : okW z = true) (hi : i < (dep z).length) : okW (rlW z i) = true ∧ dep (rlW z i) = (dep z).eraseIdx i ∧ (rlW z i).length ≤ z.length := by
  have e : (dep z)[i]? = some (dep z)[i] := by simp [hi]
  generalize (dep z)[i] = d at e
  obtain ⟨h1, h2, h3⟩ := dl_set (ls z) i d e
  have el : ls (rlW z i) = relL (ls z) ((ls z).length - d) := by
    unfold rlW
    rw [List.getD_eq_getElem?_getD, e, ← ls_len]
    rfl
  have hb : ((ls z).take ((ls z).length - d) ++ [48] ++ (ls z).drop ((ls z).length - d + 1)).all Bit = true := by
    rw [List.all_append, List.all_append]
    have ha := ok_all h
    have a1 : ((ls z).take ((ls z).length - d)).all Bit = true := List.all_eq_true.mpr fun c hc => List.all_eq_true.mp ha c (List.mem_of_mem_take hc)
    have a2 : ((ls z).drop ((ls z).length - d + 1)).all Bit = true := List.all_eq_true.mpr fun c hc => List.all_eq_true.mp ha c (List.mem_of_mem_drop hc)
    rw [a1, a2]; rfl
  refine ⟨?_, ?_, ?_⟩
  · rw [okW_eq, el]
    exact dw_ok hb
  · show dl (ls (rlW z i)) = _
    rw [el]
    unfold relL
    rw [dl_drop0, h3]
    rfl
  · rw [ls_len, el, ls_len z]
    unfold relL
    refine Nat.le_trans (List.dropWhile_sublist _).length_le ?_
    have := (List.getElem?_eq_some_iff.mp h2).1
    rw [List.length_append, List.length_append, List.length_take, List.length_drop, List.length_singleton]
    omega
end Lw

namespace Lw
open PySem PySem.Spec PyProof.Rows L2 Cy Tx
/-- the budget of the put s behind the phase ph -/
def bN (bs : List Int) (ph : Int) (s : Nat) : Nat := (bat bs (ph + (s : Nat))).toNat
theorem bat_nn {bs : List Int} (h : ∀ b ∈ bs, 0 ≤ b) (t : Int) : 0 ≤ bat bs t := by
  unfold bat
  rw [List.getD_eq_getElem?_getD]
  cases e : bs[(t % (bs.length : Int)).toNat]? with
  | none => exact Int.le_refl _
  | some b => exact h b (List.mem_of_getElem? e)
theorem bN_int {bs : List Int} (h : ∀ b ∈ bs, 0 ≤ b) (ph : Int) (s : Nat) : ((bN bs ph s : Nat) : Int) = bat bs (ph + (s : Nat)) := by
  unfold bN
  have := bat_nn h (ph + (s : Nat))
  omega
theorem bat_per (bs : List Int) (t : Int) (q : Nat) : bat bs (t + q * bs.length) = bat bs t := by
  unfold bat
  rw [Int.add_mul_emod_self_right]
theorem bN_per (bs : List Int) (ph : Int) (t : Nat) : bN bs ph (t + bs.length) = bN bs ph t := by
  unfold bN
  have := bat_per bs (ph + (t : Nat)) 1
  rw [show ph + ((t + bs.length : Nat) : Int) = ph + (t : Nat) + (1 : Nat) * (bs.length : Nat) by omega, this]
theorem bN_shift (bs : List Int) (ph : Int) (k : Nat) : (fun s => bN bs ph (k + s)) = bN bs (ph + (k : Nat)) := by
  funext s
  unfold bN
  congr 2
  omega
theorem bN_mod {bs : List Int} (ph : Int) : bN bs (ph % (bs.length : Int)) = bN bs ph := by
  funext s
  unfold bN bat
  rw [Int.emod_add_emod]
def cumI (bs : List Int) (ph : Int) : Nat → Int
  | 0 => 0
  | c + 1 => cumI bs ph c + bat bs (ph + (c : Nat))
theorem cum_int {bs : List Int} (h : ∀ b ∈ bs, 0 ≤ b) (ph : Int) (c : Nat) : ((Lf.cum (bN bs ph) c : Nat) : Int) = cumI bs ph c := by
  induction c with
  | zero => rfl
  | succ c ih =>
    show ((Lf.cum (bN bs ph) c + bN bs ph c : Nat) : Int) = cumI bs ph c + bat bs (ph + (c : Nat))
    rw [Int.natCast_add, ih, bN_int h]
theorem cumI_add (bs : List Int) (ph : Int) (a c : Nat) : cumI bs ph (a + c) = cumI bs ph a + cumI bs (ph + (a : Nat)) c := by
  induction c with
  | zero => show cumI bs ph a = cumI bs ph a + 0; omega
  | succ c ih =>
    show cumI bs ph (a + c) + bat bs (ph + ((a + c : Nat) : Int)) = cumI bs ph a + (cumI bs (ph + (a : Nat)) c + bat bs (ph + (a : Nat) + (c : Nat)))
    rw [ih, show ph + ((a + c : Nat) : Int) = ph + (a : Nat) + (c : Nat) by omega]
    omega
theorem cumI_per (bs : List Int) (ph : Int) (q c : Nat) : cumI bs (ph + q * bs.length) c = cumI bs ph c := by
  induction c with
  | zero => rfl
  | succ c ih =>
    show cumI bs (ph + q * bs.length) c + bat bs (ph + q * bs.length + (c : Nat)) = cumI bs ph c + bat bs (ph + (c : Nat))
    rw [ih, show ph + (q : Int) * bs.length + (c : Nat) = ph + (c : Nat) + (q : Nat) * (bs.length : Nat) by omega, bat_per]
/-- a part of the doubled round -/
theorem part_sum {bs : List Int} {f : Nat} (hf : f < bs.length) : ∀ e, e ≤ bs.length → (((bs ++ bs).drop f).take e).sum = cumI bs (f : Nat) e
  | 0, _ => by rw [List.take_zero]; rfl
  | e + 1, he => by
    have ih := part_sum hf e (by omega)
    have hlt : f + e < (bs ++ bs).length := by rw [List.length_append]; omega
    have ee : ((bs ++ bs).drop f)[e]? = some (bat bs ((f : Nat) + (e : Nat))) := by
      rw [List.getElem?_drop]
      unfold bat
      by_cases h : f + e < bs.length
      · rw [List.getElem?_append_left h, show ((f : Nat) : Int) + (e : Nat) = ((f + e : Nat) : Int) by omega, Int.emod_eq_of_lt (by omega) (by omega)]
        rw [Int.toNat_natCast, List.getD_eq_getElem?_getD]
        simp [h]
      · rw [List.getElem?_append_right (by omega), show ((f : Nat) : Int) + (e : Nat) = ((f + e - bs.length : Nat) : Int) + (1 : Int) * (bs.length : Int) by omega, Int.add_mul_emod_self_right, Int.emod_eq_of_lt (by omega) (by omega)]
        have h2 : f + e - bs.length < bs.length := by omega
        rw [Int.toNat_natCast, List.getD_eq_getElem?_getD]
        simp [h2]
    rw [List.take_succ, ee, List.sum_append, ih]
    show cumI bs (f : Nat) e + (bat bs ((f : Nat) + (e : Nat)) + 0) = cumI bs (f : Nat) e + bat bs ((f : Nat) + (e : Nat))
    omega
theorem round_sum {bs : List Int} {f : Nat} (hf : f < bs.length) : cumI bs (f : Nat) bs.length = bs.sum := by
  rw [← part_sum hf bs.length (Nat.le_refl _), List.drop_append_of_le_length (by omega), List.take_append, List.take_of_length_le (by rw [List.length_drop]; omega), List.length_drop,
    show bs.length - (bs.length - f) = f by omega, List.sum_append]
  have h := congrArg List.sum (List.take_append_drop f bs)
  rw [List.sum_append] at h
  omega
theorem mod_f {bs : List Int} (hb : 0 < bs.length) (s : Int) : ∃ (f : Nat), f < bs.length ∧ s % (bs.length : Int) = (f : Int) := nat_mod hb
theorem cumI_mod {bs : List Int} (s : Int) (c : Nat) : cumI bs (s % (bs.length : Int)) c = cumI bs s c := by
  induction c with
  | zero => rfl
  | succ c ih =>
    show cumI bs (s % (bs.length : Int)) c + bat bs (s % (bs.length : Int) + (c : Nat)) = cumI bs s c + bat bs (s + (c : Nat))
    rw [ih]
    unfold bat
    rw [Int.emod_add_emod]
theorem turns_sum {bs : List Int} (hb : 0 < bs.length) (s : Int) (q e : Nat) : cumI bs s (q * bs.length + e) = (q : Int) * bs.sum + cumI bs s e := by
  induction q with
  | zero => rw [Nat.zero_mul, Nat.zero_add]; simp
  | succ q ih =>
    obtain ⟨f, hf, ef⟩ := mod_f hb s
    have h1 : cumI bs s bs.length = bs.sum := by rw [← cumI_mod, ef, round_sum hf]
    rw [show (q + 1) * bs.length + e = bs.length + (q * bs.length + e) by rw [Nat.succ_mul]; omega, cumI_add, h1]
    have h2 := cumI_per bs s 1 (q * bs.length + e)
    rw [show s + ((1 : Nat) : Int) * bs.length = s + (bs.length : Nat) by omega] at h2
    rw [h2, ih, show ((q + 1 : Nat) : Int) = (q : Int) + 1 by omega, Int.add_mul]
    omega
section
variable {g : Wd} {j : Nat} {H : Hp}
/-- the sum of c budgets from s on -/
def spWin (g : Wd) : Sp := fun vs H Q _ => ∃ (r : Addr) (bs : List Int) (s : Int) (c : Nat), vs = [.ref r, .int s, .int (c : Nat)] ∧ RoundAt g H r bs ∧ BsOk bs ∧ 0 ≤ s ∧ c < 2 ^ 62 ∧ ∀ H', Gr H H' → Q (.int (Lf.cum (bN bs s) c : Nat)) H'
theorem p_win (T : Top g) : FnG g 2 (mad g.K (gad g.K "Round") "_window") (spWin g) := fk_Round__window T 0 fun vs H Q E ⟨r, bs, s, c, ev, ⟨dx, t, h1, h2⟩, hb, hs, hc2, h⟩ => by
  subst ev
  have lp : 0 < bs.length := hb.l1
  have l12 := hb.l2
  refine ⟨rfl, ?_⟩
  refine FldP.by rfl h1 (cl_Round T) (na_Round__budgets T) lkB ?_
  refine LenP.t (.of h2) ?_
  rw [List.length_map]
  refine ⟨⟨by omega, by omega⟩, fun p hp => ?_⟩
  refine UnpP.t rfl (.of upd_same) rfl ?_
  have k1 : Gr H (upd H p (.tup [.int ((c : Nat) / (bs.length : Int)), .int ((c : Nat) % (bs.length : Int))])) := Gr.new hp
  refine FldP.by rfl (k1 _ _ h1) (cl_Round T) (na_Round__budgets T) lkB ?_
  refine LenP.t (.of (k1 _ _ h2)) ⟨by rw [List.length_map]; omega, ?_⟩
  rw [List.length_map]
  refine FldP.by rfl (k1 _ _ h1) (cl_Round T) (na_Round__budgets T) lkB ?_
  refine FldP.by rfl (k1 _ _ h1) (cl_Round T) (na_Round__budgets T) lkB ?_
  have nb : bs.map V.int ≠ [] := by
    intro e
    have := congrArg List.length e
    rw [List.length_map, List.length_nil] at this
    omega
  refine AddR.tup _ _ (.of (k1 _ _ h2)) (.of (k1 _ _ h2)) nb nb (by rw [List.length_map, sizeLine_eq]; omega) fun q hq => ?_
  have k2 := k1.trans (Gr.new (o := .tup (bs.map V.int ++ bs.map V.int)) hq)
  refine FldP.by rfl (k2 _ _ h1) (cl_Round T) (na_Round__budgets T) lkB ?_
  refine SumP.t (ns := bs) (.of (k2 _ _ h2)) ?_
  obtain ⟨s1, s2⟩ := bs_sum hb
  have hc : (0 : Int) ≤ (c : Nat) := by omega
  have hq1 : 0 ≤ ((c : Nat) : Int) / (bs.length : Int) := Int.ediv_nonneg hc (by omega)
  have hq2 : ((c : Nat) : Int) / (bs.length : Int) ≤ (c : Nat) := Int.ediv_le_self _ hc
  refine ⟨?_, ?_⟩
  · show (((c : Nat) : Int) / (bs.length : Int)).natAbs.log2 + bs.sum.natAbs.log2 < 1000000
    have a1 : (((c : Nat) : Int) / (bs.length : Int)).natAbs.log2 < 62 := log2_lt (by decide) (by omega)
    have a2 : bs.sum.natAbs.log2 < 200 := log2_lt (by decide) (by
      have : bs.sum.natAbs ≤ 12 * 10 ^ 30 := by omega
      exact Nat.lt_of_le_of_lt this (by decide))
    omega
  obtain ⟨f, hf, ef⟩ := nat_mod (a := s) lp
  obtain ⟨e, he, ee⟩ := nat_mod (a := ((c : Nat) : Int)) lp
  have et : (bs.map V.int ++ bs.map V.int) = (bs ++ bs).map V.int := by rw [List.map_append]
  refine SlP.t (xs := (bs ++ bs).map V.int) (.of (by rw [← et]; exact upd_same)) ?_ fun q2 hq2' => ?_
  · rw [ef, ee]
    rintro ⟨_, z⟩
    have z2 : HT.sIx ((bs ++ bs).map V.int).length ((bs ++ bs).map V.int).length (some ((f : Int) + (e : Int))) = min (f + e) ((bs ++ bs).map V.int).length := by
      rw [show (f : Int) + (e : Int) = ((f + e : Nat) : Int) by omega]
      exact HT.sIx_nat _ _ _
    rw [z2, List.length_map, List.length_append] at z
    omega
  · have ec : cutV ((bs ++ bs).map V.int) (some (s % (bs.length : Int))) (some (s % (bs.length : Int) + ((c : Nat) : Int) % (bs.length : Int))) = (((bs ++ bs).drop f).take e).map V.int := by
      rw [ef, ee, show (f : Int) + (e : Int) = ((f + e : Nat) : Int) by omega]
      unfold cutV
      rw [HT.sIx_nat, HT.sIx_nat, List.length_map, List.length_append, Nat.min_eq_left (by omega), Nat.min_eq_left (by omega), ← List.map_drop, ← List.map_take, show f + e - f = e by omega]
    refine SumP.t (.of (by rw [ec] <;> exact upd_same)) ?_
    have key : ((Lf.cum (bN bs s) c : Nat) : Int) = ((c : Nat) : Int) / (bs.length : Int) * bs.sum + (((bs ++ bs).drop f).take e).sum := by
      rw [cum_int hb.nn, part_sum hf e (by omega)]
      have e1 : c = (c / bs.length) * bs.length + e := by
        have h1 := Nat.div_add_mod c bs.length
        have h2 : c % bs.length = e := by omega
        rw [Nat.mul_comm] at h1
        omega
      conv => lhs; rw [e1]
      rw [turns_sum lp, ← ef, cumI_mod]
      rfl
    show Q (.int (((c : Nat) : Int) / (bs.length : Int) * bs.sum + (((bs ++ bs).drop f).take e).sum)) _
    rw [← key]
    exact h _ (k2.trans (Gr.new hq2'))
theorem p_total (T : Top g) : FnG g 6 (mad g.K (gad g.K "Round") "total") (spWin g) := fk_Round_total T 4 fun vs H Q E ⟨r, bs, s, c, ev, hr, hb, hs, hc2, h⟩ => by
  subst ev
  refine ⟨rfl, CallP.by (p_at_least T (j := 2) (by decide)) (by decide) ⟨_, _, _, rfl, by decide +kernel, ?_⟩⟩
  rw [if_neg (by omega)]
  refine CallP.by (p_at_least T (j := 2) (by decide)) (by decide) ⟨_, _, _, rfl, by decide +kernel, ?_⟩
  rw [if_neg (by omega)]
  obtain ⟨dx, t, h1⟩ := ra_ins hr
  refine MethP.own rfl h1 (cl_Round T) (mt_Round__window T) (lkn (by decide)) ?_
  exact CallP.by (p_win T) (by decide) ⟨r, bs, s, c, rfl, hr, hb, hs, hc2, h⟩
end
end Lw

namespace Lw
open PySem PySem.Spec PyProof.Rows L2 Cy Tx
theorem drop_dl {l : List Nat} {i c : Nat} (e : l[i]? = some c) : dl (l.drop i) = if c = 49 then (l.length - i) :: dl (l.drop (i + 1)) else dl (l.drop (i + 1)) := by
  obtain ⟨hi, rfl⟩ := List.getElem?_eq_some_iff.mp e
  rw [List.drop_eq_getElem_cons hi]
  conv => lhs; unfold dl
  have : (l.drop (i + 1)).length + 1 = l.length - i := by rw [List.length_drop]; omega
  rw [this]
theorem one_iff (c : Nat) : ((⟨#[c]⟩ : Str) = "1") ↔ c = 49 := by
  constructor
  · intro e
    have := congrArg ls e
    rw [ls_one] at this
    have this : [c] = [49] := this
    simpa using this
  · rintro rfl
    exact one_eq.symm
section
variable {g : Wd} {j : Nat} {H : Hp}
abbrev nat (n : Nat) : V := .int (n : Int)
def spDep : Sp := fun vs H Q _ => ∃ z : Str, vs = [.str z] ∧ z.length ≤ 90000 ∧ ∀ (p : Addr) (H' : Hp), Gr H H' → H' p = some (.lst ((dep z).map nat)) → Q (.ref p) H'
theorem p_depl (T : Top g) : FnG g 2 (gad g.K "_depth_list") spDep := fk__depth_list T 0 fun vs H Q E ⟨z, ev, hz, h⟩ => by
  subst ev
  refine ⟨rfl, fun D hD => ?_⟩
  have hsz : z.cps.size = z.length := rfl
  have hls : (ls z).length = z.length := (ls_len z).symm
  refine ⟨fun i m H' => m = z.cps.size - i ∧ i ≤ z.cps.size ∧ Gr H H' ∧ ∃ acc : List Nat, acc.length ≤ i ∧ H' D = some (.lst (acc.map nat)) ∧ acc ++ dl ((ls z).drop i) = dep z, ⟨z.cps.size, by omega, Nat.zero_le _, Gr.new hD, [], Nat.zero_le _, upd_same, rfl⟩, ?_⟩
  rintro i m H' ⟨rfl, hi, k, acc, hn, hl, ea⟩
  by_cases hlt : i < z.cps.size
  · refine .inr ⟨hlt, fun H2 => Gr H H2 ∧ ∃ acc : List Nat, acc.length ≤ i + 1 ∧ H2 D = some (.lst (acc.map nat)) ∧ acc ++ dl ((ls z).drop (i + 1)) = dep z, fun H2 ⟨k2, acc2, a, b, c⟩ => ⟨_, by omega, rfl, hlt, k2, acc2, a, b, c⟩, ?_⟩
    rintro x H2 ⟨t, c, rfl, ht, rfl, hc⟩
    have hc2 : (ls z)[i]? = some c := by simpa using hc
    have tD : t ≠ D := fun e => by rw [e, hl] at ht; cases ht
    have k2 : Gr H (upd H' t (.tup [.int (0 + (i : Nat)), .str ⟨#[c]⟩])) := k.trans (Gr.new ht)
    have hD2 : upd H' t (.tup [.int (0 + (i : Nat)), .str ⟨#[c]⟩]) D = some (.lst (acc.map nat)) := by rw [upd_ne (Ne.symm tD)]; exact hl
    rw [drop_dl hc2] at ea
    refine UnpP.t rfl (.of upd_same) rfl ⟨rfl, ?_⟩
    refine ite_i (fun c1 => ?_) (fun c1 => ?_)
    · rw [if_pos ((one_iff c).mp (dt0 c1))] at ea
      refine ⟨ml (by omega), acc.map nat, hD2, by rw [List.length_map, sizeLine_eq]; omega, gr_upd k2 hD, acc ++ [z.length - i], by rw [List.length_append]; simp; omega, ?_, ?_⟩
      · rw [List.map_append]
        have : (z.length : Int) - (0 + (i : Nat)) = ((z.length - i : Nat) : Int) := by omega
        show upd _ D (.lst (acc.map nat ++ [.int ((z.length : Int) - (0 + (i : Nat)))])) D = _
        rw [this]
        exact upd_same
      · rw [List.append_assoc, ← hls]; exact ea
    · rw [if_neg (fun q => df0 c1 ((one_iff c).mpr q))] at ea
      exact ⟨k2, acc, by omega, hD2, ea⟩
  · have e : i = z.cps.size := by omega
    rw [List.drop_eq_nil_of_le (by rw [hls]; omega)] at ea
    have e2 : acc = dep z := by rw [← ea]; exact (List.append_nil _).symm
    rw [e2] at hl
    exact .inl ⟨e, h D H' k hl⟩
def spDepths : Sp := fun vs H Q _ => ∃ z : Str, vs = [.str z] ∧ z.length ≤ 90000 ∧ okW z = true ∧ ∀ (p : Addr) (H' : Hp), Gr H H' → H' p = some (.lst ((dep z).map nat)) → Q (.ref p) H'
theorem at_nat {l : List Nat} {i d : Nat} (e : l[i]? = some d) {k : Int} (hk : k = (i : Nat)) : atI (l.map nat) k = some (nat d) := at_of hk (by rw [List.getElem?_map, e]; rfl)
def spRlsd : Sp := fun vs H Q _ => ∃ (z : Str) (i : Nat), vs = [.str z, nat i] ∧ z.length ≤ 80000 ∧ i < (dep z).length ∧ ∀ H', Gr H H' → Q (.str (rlW z i)) H'
theorem p_rlsd (T : Top g) : FnG g 4 (gad g.K "_released") spRlsd := fk__released T 2 fun vs H Q E ⟨z, i, ev, hz, hi, h⟩ => by
  subst ev
  have hs : z.length ≤ sizeLine := ml (by omega)
  have e : (dep z)[i]? = some (dep z)[i] := by simp [hi]
  generalize (dep z)[i] = d at e
  have hd := dl_le (ls z) d (List.mem_of_getElem? e)
  rw [← ls_len] at hd
  refine ⟨rfl, hs, CallP.by (p_depl T) (by decide) ⟨z, rfl, by omega, fun p H1 k1 hp => ?_⟩⟩
  refine IxR'.l (.of hp) (at_nat e rfl) ?_
  have ep : ((z.length : Nat) : Int) - ((d : Nat) : Int) = ((z.length - d : Nat) : Int) := by omega
  have l1 := cut_to z (z.length - d)
  have l2 := cut_from z (z.length - d + 1)
  have c1 : (cutS z none (some ((z.length - d : Nat) : Int))).length ≤ z.length - d := by rw [ls_len, l1, ls_len z, List.length_take]; omega
  have c2 : (cutS z (some ((z.length - d + 1 : Nat) : Int)) none).length ≤ d := by rw [ls_len, l2, ls_len z, List.length_drop, ← ls_len z]; omega
  have e0 : ("0" : Str).length = 1 := by decide +kernel
  dsimp only [nat, cSub, cI0, gName]
  rw [ep]
  have e1 : ((z.length - d : Nat) : Int) + 1 = ((z.length - d + 1 : Nat) : Int) := by omega
  refine ⟨hs, ⟨by rw [e0, sizeLine_eq]; omega, ?_⟩⟩
  dsimp only [cAdd, tOp, tC, cV, cPart]
  show z.length ≤ sizeLine ∧ _
  refine ⟨hs, ?_⟩
  rw [e1]
  refine ⟨by rw [len_app, e0, sizeLine_eq]; omega, CallP.by (p_trimmed T) (by decide) ⟨_, rfl, by rw [len_app, len_app, e0]; omega, ?_⟩⟩
  rw [rlW_of e]
  exact h _ k1
def spRls (g : Wd) : Sp := fun vs H Q _ => ∃ (z : Str) (i : Nat), vs = [.str z, nat i] ∧ z.length ≤ 80000 ∧ okW z = true ∧ i < (dep z).length ∧ ∀ H', Gr H H' → Q (.str (rlW z i)) H'
theorem p_rls (T : Top g) : FnG g 6 (gad g.K "release") (spRls g) := fk_release T 4 fun vs H Q E ⟨z, i, ev, hz, ok, hi, h⟩ => by
  subst ev
  refine ⟨rfl, CallP.by (p_good_word T (j := 2) (by decide)) (by decide) ⟨z, _, rfl, by omega, by decide +kernel, ?_⟩⟩
  rw [if_pos ok]
  refine CallP.by (p_at_least T (j := 2) (by decide)) (by decide) ⟨_, _, _, rfl, by decide +kernel, ?_⟩
  rw [if_neg (by omega)]
  refine CallP.by (p_ones T) (by decide) ⟨z, rfl, ?_⟩
  refine CallP.by (p_at_most T (j := 2) (by decide)) (by decide) ⟨_, _, _, rfl, by decide +kernel, ?_⟩
  rw [if_neg (by rw [dep_len]; omega)]
  exact CallP.by (p_rlsd T) (by decide) ⟨z, i, rfl, hz, hi, h⟩
theorem lcs_fix {y : Str} (h : lc y = y) : ∀ k, lcs k y = y
  | 0 => rfl
  | k + 1 => by show lcs k (lc y) = y; rw [h, lcs_fix h k]
theorem lcs_add (a b : Nat) (z : Str) : lcs (a + b) z = lcs b (lcs a z) := by
  induction b with
  | zero => rfl
  | succ b ih => rw [← Nat.add_assoc, lcs_succ, ih, lcs_succ]
def spCof : Sp := fun vs H Q _ => ∃ (z : Str) (k m : Nat), vs = [.str z, nat k, nat m] ∧ z.length ≤ 80000 ∧ k < 2 ^ 40 ∧ okW z = true ∧ (k = 0 ∨ (¬ z = "" ∧ z.length < m)) ∧ ∀ H', Gr H H' → Q (.str (lcs k z)) H'
theorem p_cof (T : Top g) : FnG g 6 (gad g.K "_carried_often") spCof := fk__carried_often T 4 fun vs H Q E ⟨z, k, m, ev, hz, hk, ok, hn, h⟩ => by
  subst ev
  refine ⟨rfl, ?_⟩
  refine ⟨_, rfl, by omega, by omega, ?_⟩
  have ek : ((k : Nat) : Int).toNat = k := by omega
  rw [ek]
  refine for_range (fun i σ H' => H' = H ∧ i ≤ k ∧ ∃ o1 o2, σ = [some (.str z), some (nat k), some (nat m), some (.str (lcs i z)), o1, o2]) ⟨rfl, Nat.zero_le _, _, _, rfl⟩ ?_ ?_
  · rintro i σ H' hi ⟨rfl, hik, o1, o2, rfl⟩
    have hn : ¬ z = "" ∧ z.length < m := by rcases hn with hn | hn; omega; exact hn
    obtain ⟨a1, a2, a3, a4⟩ := lcs_all i ok (.inr hn.1)
    have ey : carW (lcs i z) (m : Nat) = lc (lcs i z) := carW_lc (fun e => hn.1 (a4.mpr e)) (by omega)
    refine CallP.by (p_carried T) (by decide) ⟨lcs i z, m, rfl, by omega, ?_⟩
    rw [ey]
    refine ite_i (fun c => ?_) (fun c => ?_)
    · have e := dt0 c
      have := h H' Gr.refl
      rw [show k = i + (k - i) by omega, lcs_add, lcs_fix e] at this
      exact this
    · exact ⟨rfl, hi, _, _, by rw [lcs_succ]; rfl⟩
  · rintro σ H' ⟨rfl, _, o1, o2, rfl⟩
    exact h _ Gr.refl
def spCrs (g : Wd) : Sp := fun vs H Q _ => ∃ (z : Str) (k m : Nat), vs = [.str z, nat k, nat m] ∧ z.length ≤ 80000 ∧ k < 2 ^ 40 ∧ okW z = true ∧ 1 ≤ m ∧ z.length ≤ m ∧ (k = 0 ∨ (¬ z = "" ∧ z.length < m)) ∧ ∀ H', Gr H H' → Q (.str (lcs k z)) H'
theorem p_crs (T : Top g) : FnG g 8 (gad g.K "carries") (spCrs g) := fk_carries T 6 fun vs H Q E ⟨z, k, m, ev, hz, hk, ok, h1, h2, hn, h⟩ => by
  subst ev
  refine ⟨rfl, CallP.by (p_good_word T (j := 2) (by decide)) (by decide) ⟨z, _, rfl, by omega, by decide +kernel, ?_⟩⟩
  rw [if_pos ok]
  refine CallP.by (p_at_least T (j := 2) (by decide)) (by decide) ⟨_, _, _, rfl, by decide +kernel, ?_⟩
  rw [if_neg (by omega)]
  refine CallP.by (p_at_least T (j := 2) (by decide)) (by decide) ⟨_, _, _, rfl, by decide +kernel, ?_⟩
  rw [if_neg (by omega)]
  refine ⟨ml (by omega), CallP.by (p_at_least T (j := 2) (by decide)) (by decide) ⟨_, _, _, rfl, by decide +kernel, ?_⟩⟩
  rw [if_neg (by omega)]
  exact CallP.by (p_cof T) (by decide) ⟨z, k, m, rfl, hz, hk, ok, hn, h⟩
end
end Lw

namespace Lw
open PySem PySem.Spec PyProof.Rows L2 Cy Tx
section
variable {g : Wd} {j : Nat} {H : Hp}
/-- a standing that is asked for -/
structure Bq (g : Wd) (H : Hp) (z : Str) (m N : Nat) (ph : Int) (r : Addr) (bs : List Int) : Prop where
  st : StOk z m N ph
  ra : RoundAt g H r bs
  bo : BsOk bs
  up : m < 2 ^ 40
  pu : ph < 2 ^ 60
theorem Bq.gr {z : Str} {m N : Nat} {ph : Int} {r : Addr} {bs : List Int} {H' : Hp} (k : Gr H H') (q : Bq g H z m N ph r bs) : Bq g H' z m N ph r bs := ⟨q.st, q.ra.gr k, q.bo, q.up, q.pu⟩
def spBn (g : Wd) : Sp := fun vs H Q _ => ∃ (t m N : Nat) (ph : Int) (sp r : Addr) (D : List Nat) (bs : List Int), vs = [nat t, .ref sp, nat m, nat N, .ref r, .int ph] ∧ H sp = some (.lst (D.map nat)) ∧ RoundAt g H r bs ∧ BsOk bs ∧ 0 ≤ ph ∧ t < 2 ^ 41 ∧ 1 ≤ N ∧
  ∀ (b : Bool) H', Gr H H' → (b = true ↔ Lf.Bl (bN bs ph) N D m t) → Q (.bl b) H'
def spSn (g : Wd) : Sp := fun vs H Q _ => ∃ (t m N n : Nat) (ph : Int) (r : Addr) (D : List Nat) (bs : List Int), vs = [nat t, nat n, nat m, nat N, .ref r, .int ph] ∧ n = D.length ∧ D.length ≤ N ∧ RoundAt g H r bs ∧ BsOk bs ∧ 0 ≤ ph ∧ m < 2 ^ 40 ∧ m - n ≤ t ∧ 1 ≤ N ∧
  ∀ (b : Bool) H', Gr H H' → (b = true ↔ Lf.Sh (bN bs ph) N D m t) → Q (.bl b) H'
/-- None or a number -/
def OptN (v : V) : Prop := v = .non ∨ ∃ i : Int, v = .int i
def spBa (g : Wd) (C : List Int → Str → Nat → Nat → Int → Prop) : Sp := fun vs H Q _ => ∃ (z : Str) (m N : Nat) (ph : Int) (r : Addr) (bs : List Int), vs = [.str z, nat m, nat N, .ref r, .int ph, .bl false] ∧ Bq g H z m N ph r bs ∧ ∀ v H', OptN v → Gr H H' → (v = .non ↔ C bs z m N ph) → Q v H'
def cBl (bs : List Int) (z : Str) (m N : Nat) (ph : Int) : Prop := ∀ t, t < m → ¬ Lf.Bl (bN bs ph) N (dep z) m t
def cSh (bs : List Int) (z : Str) (m N : Nat) (ph : Int) : Prop := ∀ t, m - (dep z).length ≤ t → t < m - (dep z).length + bs.length → ¬ Lf.Sh (bN bs ph) N (dep z) m t
def cSafe (bs : List Int) (z : Str) (m N : Nat) (ph : Int) : Prop := Lf.Safe (bN bs ph) N (dep z) m
theorem csafe_iff {bs : List Int} {z : Str} {m N : Nat} {ph : Int} (st : StOk z m N ph) (bo : BsOk bs) : cSafe bs z m N ph ↔ cBl bs z m N ph ∧ cSh bs z m N ph :=
  Lf.safe_iff (dep_ok z) (by have := st.h5; rw [dep_len] at this; omega) (by have := st.h2; omega) (by have := st.h1; omega) bo.l1 (bN_per bs ph)
def spSafe (g : Wd) : Sp := fun vs H Q _ => ∃ (z : Str) (m N : Nat) (ph : Int) (r : Addr) (bs : List Int), vs = [.str z, nat m, nat N, .ref r, .int ph] ∧ Bq g H z m N ph r bs ∧ ∀ (b : Bool) H', Gr H H' → (b = true ↔ cSafe bs z m N ph) → Q (.bl b) H'
end
end Lw

namespace Lw
open PySem PySem.Spec PyProof.Rows L2 Cy Tx
open Classical in
noncomputable def safeB (bs : List Int) (z : Str) (m N : Nat) (ph : Int) : Bool := decide (cSafe bs z m N ph)
theorem safeB_iff {bs : List Int} {z : Str} {m N : Nat} {ph : Int} : safeB bs z m N ph = true ↔ cSafe bs z m N ph := by unfold safeB; simp
theorem eq_safeB {b : Bool} {bs : List Int} {z : Str} {m N : Nat} {ph : Int} (h : b = true ↔ cSafe bs z m N ph) : b = safeB bs z m N ph := by
  rw [Bool.eq_iff_iff, h, safeB_iff]
theorem safeB_mod {bs : List Int} {z : Str} {m N : Nat} {ph : Int} : safeB bs z m N (ph % (bs.length : Int)) = safeB bs z m N ph := by
  rw [Bool.eq_iff_iff, safeB_iff, safeB_iff]
  unfold cSafe
  rw [bN_mod]
/-- the most that may be carried, as a count -/
def mostN (bs : List Int) (z : Str) (m : Nat) (ph : Int) : Nat := (mostA z m bs ph).toNat
theorem mostN_int {bs : List Int} (h : ∀ b ∈ bs, 0 ≤ b) (z : Str) (m : Nat) (ph : Int) : ((mostN bs z m ph : Nat) : Int) = mostA z m bs ph := by
  unfold mostN mostA
  have h1 := bat_nn h ph
  have h2 : 0 ≤ Txt.count z "1" := by rw [dep_len]; omega
  split <;> omega
theorem mostN_le (bs : List Int) (z : Str) (m : Nat) (ph : Int) : mostN bs z m ph ≤ (dep z).length := by
  unfold mostN mostA
  have h2 := dep_len z
  split <;> omega
theorem mostN_full {bs : List Int} {z : Str} {m : Nat} {ph : Int} (h : z.length = m) : mostN bs z m ph = 0 := by
  unfold mostN mostA
  rw [if_pos (by omega)]
  rfl
theorem mostN_b {bs : List Int} {z : Str} {m : Nat} {ph : Int} (h : z.length ≠ m) : mostN bs z m ph = min (bN bs ph 0) (dep z).length := by
  unfold mostN mostA bN
  rw [if_neg (by omega), dep_len, show ph + ((0 : Nat) : Int) = ph by omega]
  omega
/-- the word behind k carries and the append -/
def nxt (z : Str) (k : Nat) : Str := lcs k z ++ "1"
noncomputable def thr (bs : List Int) (z : Str) (m N : Nat) (ph : Int) : Nat := (List.range (mostN bs z m ph)).findIdx fun k => safeB bs (nxt z k) m N (ph + 1)
theorem thr_le (bs : List Int) (z : Str) (m N : Nat) (ph : Int) : thr bs z m N ph ≤ mostN bs z m ph := by
  have := List.findIdx_le_length (xs := List.range (mostN bs z m ph)) (p := fun k => safeB bs (nxt z k) m N (ph + 1))
  rw [List.length_range] at this
  exact this
theorem thr_at {bs : List Int} {z : Str} {m N : Nat} {ph : Int} {k : Nat} (hk : k < mostN bs z m ph) (hs : safeB bs (nxt z k) m N (ph + 1) = true) (hno : ∀ i, i < k → safeB bs (nxt z i) m N (ph + 1) = false) : thr bs z m N ph = k := by
  refine (List.findIdx_eq (by rw [List.length_range]; exact hk)).mpr ⟨by rw [List.getElem_range]; exact hs, fun i hi => ?_⟩
  rw [List.getElem_range]
  have := hno i hi
  simpa using this
theorem thr_end {bs : List Int} {z : Str} {m N : Nat} {ph : Int} (hno : ∀ i, i < mostN bs z m ph → safeB bs (nxt z i) m N (ph + 1) = false) : thr bs z m N ph = mostN bs z m ph := by
  have : thr bs z m N ph = (List.range (mostN bs z m ph)).length := List.findIdx_eq_length_of_false fun i hi => hno i (List.mem_range.mp hi)
  rw [this, List.length_range]
/-- a word among whose puts is one more place, one more key -/
structure WOk (z : Str) (m N : Nat) : Prop where
  ok : okW z = true
  hz : z.length ≤ 70000
  m1 : 1 ≤ m
  m2 : m < 2 ^ 40
  le : z.length ≤ m
  n1 : 1 ≤ N
  ones : (dep z).length < N
  nm : N ≤ m
theorem nxt_len {z : Str} {m N k : Nat} (w : WOk z m N) (hk : k = 0 ∨ ¬ z = "") (hl : z.length < m) : okW (nxt z k) = true ∧ (nxt z k).length ≤ z.length + 1 ∧ dep (nxt z k) = Lf.app (Lf.cars k (dep z)) ∧ (dep (nxt z k)).length = (dep z).length + 1 := by
  obtain ⟨a1, a2, a3, a4⟩ := lcs_all k w.ok hk
  refine ⟨apd_okW a1, by unfold nxt; rw [len_app, len1]; omega, by unfold nxt; rw [apd_dw, a2], ?_⟩
  unfold nxt
  rw [apd_dw, a2, Lf.app_len, Lf.cars_len]
theorem nxt_st {z : Str} {m N k : Nat} {ph : Int} (w : WOk z m N) (hk : k = 0 ∨ ¬ z = "") (hl : z.length < m) (hp : 0 ≤ ph) : StOk (nxt z k) m N ph := by
  obtain ⟨b1, b2, b3, b4⟩ := nxt_len w hk hl
  have h1 := w.ones
  have h2 := w.nm
  have h3 := w.m1
  have h4 := w.n1
  have h5 := w.hz
  refine ⟨b1, by omega, by omega, by omega, hp, by omega, by rw [dep_len, b4]; omega, by omega⟩
theorem ne_of_ones {z : Str} {k : Nat} (h : k < (dep z).length ∨ k ≤ (dep z).length) : k = 0 ∨ ¬ z = "" := by
  by_cases e : z = ""
  · left
    rw [e, dep_e] at h
    simp at h
    omega
  · exact .inr e
section
variable {g : Wd} {j : Nat} {H : Hp}
def spLs (g : Wd) : Sp := fun vs H Q _ => ∃ (k : Addr) (z : Str) (m N : Nat) (ph : Int) (r : Addr) (bs : List Int), vs = [.ref k, .str z, nat m, .ref r, .int ph] ∧ OneF g "Thrifty" "_limit" N k H ∧ WOk z m N ∧ z.length < m ∧ 0 ≤ ph ∧ ph < 2 ^ 60 ∧ RoundAt g H r bs ∧ BsOk bs ∧ ∀ H', Gr H H' → Q (.bl (safeB bs (z ++ "1") m N ph)) H'
def spTch (g : Wd) : Sp := fun vs H Q _ => ∃ (k : Addr) (z : Str) (m N : Nat) (ph : Int) (r : Addr) (bs : List Int), vs = [.ref k, .str z, nat m, .ref r, .int ph] ∧ OneF g "Thrifty" "_limit" N k H ∧ WOk z m N ∧ 0 ≤ ph ∧ ph < 2 ^ 50 ∧ RoundAt g H r bs ∧ BsOk bs ∧ ∀ H', Gr H H' → Q (nat (thr bs z m N ph)) H'
theorem moment_ok {z : Str} {p ph : Int} (h1 : okW z = true) (h2 : 1 ≤ p) (h3 : 0 ≤ ph) (h4 : (z.length : Int) ≤ p) : moment z p ph = none := by
  unfold moment
  rw [if_neg (by rw [h1]; decide), if_neg (by omega), if_neg (by omega), if_neg (by omega)]
end
end Lw

namespace Lw
open PySem PySem.Spec PyProof.Rows L2 Cy Tx
theorem Ok_lt {D : List Nat} (h : Lf.Ok D) : ∀ {i k x y : Nat}, D[i]? = some x → D[i + k + 1]? = some y → y < x := fun {i k x y} e1 e2 => by
  induction k generalizing y with
  | zero => exact h.falls e1 e2
  | succ k ih =>
    have hk : i + k + 1 < D.length := by have := (List.getElem?_eq_some_iff.mp e2).1; omega
    have a := ih (y := D[i + k + 1]) (by simp [hk])
    have b := h.falls (i := i + k + 1) (x := D[i + k + 1]) (by simp [hk]) e2
    omega
theorem dl_mem : ∀ (l : List Nat) {v : Nat}, l[v]? = some 49 → ∃ i : Nat, (dl l)[i]? = some (l.length - v)
  | [], v, e => by simp at e
  | c :: r, 0, e => by
    cases e
    refine ⟨0, ?_⟩
    unfold dl
    rw [if_pos rfl]
    rfl
  | c :: r, v + 1, e => by
    obtain ⟨i, hi⟩ := dl_mem r (show r[v]? = some 49 from e)
    unfold dl
    rw [List.length_cons, show r.length + 1 - (v + 1) = r.length - v by omega]
    by_cases hc : c = 49
    · rw [if_pos hc]; exact ⟨i + 1, hi⟩
    · rw [if_neg hc]; exact ⟨i, hi⟩
/-- the first one behind the i-th -/
theorem find_one {z : Str} {i d : Nat} {s : Int} (e : (dep z)[i]? = some d) (hs : (i = 0 ∧ s = 0) ∨ ∃ c, 1 ≤ i ∧ (dep z)[i - 1]? = some c ∧ s = ((z.length - c : Nat) : Int) + 1) : Txt.find3 z "1" s = ((z.length - d : Nat) : Int) := by
  obtain ⟨h1, h2, _⟩ := dl_set (ls z) i d e
  have hl : (ls z).length = z.length := (ls_len z).symm
  rw [hl] at h1 h2
  have hd := (dl_le (ls z) d (List.mem_of_getElem? e)).1
  have hs0 : 0 ≤ s ∧ s ≤ ((z.length - d : Nat) : Int) := by
    rcases hs with ⟨_, rfl⟩ | ⟨c, i1, ec, rfl⟩
    · omega
    · have := Ok_lt (dep_ok z) (i := i - 1) (k := 0) ec (by rw [show i - 1 + 0 + 1 = i by omega]; exact e)
      have hc := (dl_le (ls z) c (List.mem_of_getElem? ec)).2
      rw [hl] at hc
      omega
  have hno : ∀ v : Nat, s ≤ (v : Int) → v < z.length - d → (ls z)[v]? ≠ some 49 := fun v v1 v2 q => by
    obtain ⟨k, hk⟩ := dl_mem (ls z) q
    rw [hl] at hk
    have hki : k < i := by
      by_cases c : k < i
      · exact c
      · by_cases ek : k = i
        · subst ek
          have : (dep z)[k]? = some (z.length - v) := hk
          rw [e] at this
          cases this
          omega
        · have := Ok_lt (dep_ok z) (i := i) (k := k - i - 1) e (by rw [show i + (k - i - 1) + 1 = k by omega]; exact hk)
          omega
    rcases hs with ⟨i0, _⟩ | ⟨c, i1, ec, es⟩
    · omega
    · have hc := (dl_le (ls z) c (List.mem_of_getElem? ec)).2
      rw [hl] at hc
      by_cases ek : k = i - 1
      · subst ek
        have : (dep z)[i - 1]? = some (z.length - v) := hk
        rw [ec] at this
        cases this
        omega
      · have := Ok_lt (dep_ok z) (i := k) (k := i - 1 - k - 1) hk (by rw [show k + (i - 1 - k - 1) + 1 = i - 1 by omega]; exact ec)
        omega
  have hf : PySem.fromIndex z.length s = s.toNat := by
    unfold PySem.fromIndex
    rw [if_neg (by omega)]
    omega
  have get : ∀ {v c : Nat}, v < z.length → (z.cps.getD v 0 = c ↔ (ls z)[v]? = some c) := fun {v c} hv => by
    have hv2 : v < z.cps.size := hv
    rw [Array.getD_eq_getD_getElem?]
    have : (ls z)[v]? = z.cps[v]? := by simp
    rw [this]
    simp [hv2]
  rw [one_eq]
  rcases StrLaws.find3_spec z 49 s with ⟨_, q⟩ | ⟨k, ek, k1, k2, k3, k4⟩
  · exact absurd ((get (by omega)).mpr h2) (q (z.length - d) (by rw [hf]; omega) (by omega))
  · rw [ek]
    rw [hf] at k1 k4
    by_cases c : k < z.length - d
    · exact absurd ((get k2).mp k3) (hno k (by omega) c)
    · by_cases c2 : k = z.length - d
      · rw [c2]
      · exact absurd ((get (by omega)).mpr h2) (k4 (z.length - d) (by omega) (by omega))
section
variable {g : Wd} {j : Nat} {H : Hp}
def spFreed : Sp := fun vs H Q _ => ∃ (z : Str) (i : Nat), vs = [.str z, nat i] ∧ z.length ≤ 30000 ∧ i < (dep z).length ∧ Q (.str (rlW z i)) H
theorem p_freed (T : Top g) : FnG g 2 (gad g.K "_law_freed") spFreed := fk__law_freed T 0 fun vs H Q E ⟨z, i, ev, hz, hi, h⟩ => by
  subst ev
  have hs : z.length ≤ sizeLine := ml (by omega)
  have hdl : (dep z).length ≤ z.length := by
    have := dl_len (ls z)
    have h2 := List.count_le_length (a := 49) (l := ls z)
    rw [← ls_len] at h2
    unfold dep
    omega
  refine ⟨rfl, ?_⟩
  refine ⟨_, rfl, by omega, by omega, ?_⟩
  have ei : (((i : Nat) : Int) + 1).toNat = i + 1 := by omega
  rw [ei]
  refine for_range (fun k σ H' => H' = H ∧ ∃ (s : Int) (o : Option V), ((k = 0 ∧ s = -1) ∨ ∃ c, 1 ≤ k ∧ (dep z)[k - 1]? = some c ∧ s = ((z.length - c : Nat) : Int)) ∧ σ = [some (.str z), some (nat i), some (.int s), o]) ⟨rfl, -1, none, .inl ⟨rfl, rfl⟩, rfl⟩ ?_ ?_
  · rintro k σ H' hk ⟨rfl, s, o, hs, rfl⟩
    have hkd : k < (dep z).length := by omega
    have e : (dep z)[k]? = some (dep z)[k] := by simp [hkd]
    generalize (dep z)[k] = d at e
    have key := find_one (s := s + 1) e (by
      rcases hs with ⟨a, b⟩ | ⟨c, a, b, c'⟩
      · exact .inl ⟨a, by omega⟩
      · exact .inr ⟨c, a, b, by omega⟩)
    refine ⟨rfl, _, _, .inr ⟨d, by omega, e, key⟩, rfl⟩
  · rintro σ H' ⟨rfl, s, o, hs2, rfl⟩
    rcases hs2 with ⟨a, b⟩ | ⟨d, a, e, rfl⟩
    · omega
    · rw [show i + 1 - 1 = i by omega] at e
      have hd := dl_le (ls z) d (List.mem_of_getElem? e)
      rw [← ls_len] at hd
      have l1 := cut_to z (z.length - d)
      have l2 := cut_from z (z.length - d + 1)
      have c1 : (cutS z none (some ((z.length - d : Nat) : Int))).length ≤ z.length - d := by rw [ls_len, l1, ls_len z, List.length_take]; omega
      have c2 : (cutS z (some ((z.length - d + 1 : Nat) : Int)) none).length ≤ d := by rw [ls_len, l2, ls_len z, List.length_drop, ← ls_len z]; omega
      have e0 : ("0" : Str).length = 1 := by decide +kernel
      have e1 : ((z.length - d : Nat) : Int) + 1 = ((z.length - d + 1 : Nat) : Int) := by omega
      refine ⟨hs, ⟨by rw [e0, sizeLine_eq]; omega, ?_⟩⟩
      dsimp only [cAdd, tOp, tC, cV, cPart]
      show z.length ≤ sizeLine ∧ _
      refine ⟨hs, ?_⟩
      rw [e1]
      refine ⟨by rw [len_app, e0, sizeLine_eq]; omega, ?_⟩
      show _ ∧ Q (.str (Txt.lstripChars (cutS z none (some ((z.length - d : Nat) : Int)) ++ "0" ++ cutS z (some ((z.length - d + 1 : Nat) : Int)) none) "0")) H'
      refine ⟨ml (by rw [len_app, len_app, e0]; omega), ?_⟩
      rw [rlW_of e]
      exact h
def spLc : Sp := fun vs H Q _ => ∃ (z : Str) (k : Nat), vs = [.str z, nat k] ∧ z.length ≤ 30000 ∧ okW z = true ∧ k < 2 ^ 40 ∧ (k = 0 ∨ ¬ z = "") ∧ Q (.str (lcs k z)) H
theorem p_lc (T : Top g) : FnG g 2 (gad g.K "_law_carried") spLc := fk__law_carried T 0 fun vs H Q E ⟨z, k, ev, hz, ok, hk, hn, h⟩ => by
  subst ev
  refine ⟨rfl, ?_⟩
  refine ⟨_, rfl, by omega, by omega, ?_⟩
  have ek : ((k : Nat) : Int).toNat = k := by omega
  rw [ek]
  refine for_range (fun i σ H' => H' = H ∧ ∃ (o : Option V), σ = [some (.str (lcs i z)), some (nat k), o]) ⟨rfl, none, rfl⟩ ?_ ?_
  · rintro i σ H' hi ⟨rfl, o, rfl⟩
    have hn : ¬ z = "" := by rcases hn with hn | hn; omega; exact hn
    obtain ⟨a1, a2, a3, a4⟩ := lcs_all i ok (.inr hn)
    have hc := cut_len (lcs i z)
    refine ⟨ml (by omega), by rw [len1, sizeLine_eq]; omega, ml (by rw [len_app, len1]; omega), rfl, some (.int (0 + (i : Nat))), ?_⟩
    rw [lcs_succ]
    rfl
  · rintro σ H' ⟨rfl, o, rfl⟩
    exact h
end
end Lw

namespace Lw
open PySem PySem.Spec PyProof.Rows L2 Cy Tx
theorem erase_last (D : List Nat) : D.eraseIdx (D.length - 1) = D.dropLast := by rw [List.eraseIdx_eq_take_drop_succ, List.dropLast_eq_take, List.drop_eq_nil_of_le (by omega), List.append_nil]
theorem two_ok {n : Nat} (h : n ≤ 1000) : CMulW 2 (n : Int) := by
  show (2 : Int).natAbs.log2 + (n : Int).natAbs.log2 < 1000000
  have h1 := log2_lt (n := (n : Int).natAbs) (k := 11) (by decide) (by omega)
  have e : (2 : Int).natAbs.log2 = 1 := by decide +kernel
  omega
theorem seq_cutR {t r : TS} {D : Ends} {σ : L2.St} {H : Hp} (post : L2.St → Hp → Prop) (h1 : ∀ N : L2.St → Hp → Prop, (∀ σ' H', post σ' H' → N σ' H') → t { D with nx := N } σ H) (h2 : ∀ σ' H', post σ' H' → r D σ' H') : tSeq t r D σ H := h1 _ h2
theorem div_pred {k L : Nat} (hL : 0 < L) (h : k % L ≠ 0) : (k - 1) / L = k / L := by
  have h1 := Nat.div_add_mod k L
  rw [Nat.mul_comm] at h1
  have h2 := Nat.mod_lt k hL
  have e : k - 1 = (k % L - 1) + k / L * L := by omega
  conv => lhs; rw [e]
  rw [Nat.add_mul_div_right _ _ hL, Nat.div_eq_of_lt (by omega), Nat.zero_add]
theorem div_self_mul {k L : Nat} (h : k % L = 0) : k / L * L = k := by
  have h1 := Nat.div_add_mod k L
  rw [Nat.mul_comm] at h1
  omega
section
variable {g : Wd} {j : Nat} {H : Hp}
/-- a word that the law plays on -/
structure POk (z : Str) (m N : Nat) : Prop where
  ok : okW z = true
  m1 : 1 ≤ m
  m2 : m ≤ 1000
  le : z.length ≤ m
  n1 : 1 ≤ N
  ones : (dep z).length ≤ N
def spLsafe : Sp := fun vs H Q _ => ∃ (z : Str) (m N : Nat) (pp : Addr) (bs : List Int) (ph : Int), vs = [.str z, nat m, nat N, .ref pp, .int ph] ∧ POk z m N ∧ H pp = some (.lst (bs.map V.int)) ∧ BsOk bs ∧ 0 ≤ ph ∧ ph < 2 ^ 50 ∧ Q (.bl (safeB bs z m N ph)) H
end
end Lw

namespace Lw
open PySem PySem.Spec PyProof.Rows L2 Cy Tx
/-- some count leads to a safe standing -/
noncomputable def dueF (bs : List Int) (z : Str) (m N : Nat) (ph : Int) : Bool := decide (z.length < m) && (List.range (mostN bs z m ph + 1)).any fun i => safeB bs (nxt z i) m N (ph + 1)
theorem dueF_yes {bs : List Int} {z : Str} {m N : Nat} {ph : Int} {k : Nat} (hl : z.length < m) (hk : k ≤ mostN bs z m ph) (hs : safeB bs (nxt z k) m N (ph + 1) = true) : dueF bs z m N ph = true := by
  unfold dueF
  rw [decide_eq_true hl, Bool.true_and, List.any_eq_true]
  exact ⟨k, List.mem_range.mpr (by omega), hs⟩
theorem dueF_no {bs : List Int} {z : Str} {m N : Nat} {ph : Int} (h : ∀ i, i ≤ mostN bs z m ph → safeB bs (nxt z i) m N (ph + 1) = false) : dueF bs z m N ph = false := by
  unfold dueF
  rw [Bool.and_eq_false_iff]
  right
  rw [List.any_eq_false]
  intro i hi
  rw [h i (by have := List.mem_range.mp hi; omega)]
  decide
theorem dueF_full {bs : List Int} {z : Str} {m N : Nat} {ph : Int} (h : ¬ z.length < m) : dueF bs z m N ph = false := by
  unfold dueF
  rw [decide_eq_false h, Bool.false_and]
/-- the count that is chosen tells it -/
theorem due_thr {bs : List Int} {z : Str} {m N : Nat} {ph : Int} (hl : z.length < m) : dueF bs z m N ph = safeB bs (nxt z (thr bs z m N ph)) m N (ph + 1) := by
  cases q : safeB bs (nxt z (thr bs z m N ph)) m N (ph + 1) with
  | true => exact dueF_yes hl (thr_le ..) q
  | false =>
    refine dueF_no fun i hi => ?_
    have key : ∀ i, i ≤ mostN bs z m ph → (∀ a, a < i → safeB bs (nxt z a) m N (ph + 1) = false) → safeB bs (nxt z i) m N (ph + 1) = true → False := fun i hi hno hs => by
      by_cases e : i < mostN bs z m ph
      · rw [thr_at e hs hno, hs] at q; cases q
      · have e2 : i = mostN bs z m ph := by omega
        subst e2
        rw [thr_end hno, hs] at q; cases q
    have all : ∀ n, n ≤ mostN bs z m ph + 1 → ∀ a, a < n → safeB bs (nxt z a) m N (ph + 1) = false := fun n => by
      induction n with
      | zero => intro _ a ha; exact absurd ha (Nat.not_lt_zero _)
      | succ n ih =>
        intro hn a ha
        by_cases e : a = n
        · subst e
          cases q2 : safeB bs (nxt z a) m N (ph + 1) with
          | false => rfl
          | true => exact (key a (by omega) (ih (by omega)) q2).elim
        · exact ih (by omega) a (by omega)
    exact all (mostN bs z m ph + 1) (Nat.le_refl _) i (by omega)
section
variable {g : Wd} {j : Nat} {H : Hp}
def spLthr : Sp := fun vs H Q _ => ∃ (z : Str) (m N : Nat) (pp : Addr) (bs : List Int) (ph : Int), vs = [.str z, nat m, nat N, .ref pp, .int ph] ∧ WOk z m N ∧ m ≤ 1000 ∧ H pp = some (.lst (bs.map V.int)) ∧ BsOk bs ∧ 0 ≤ ph ∧ ph < 2 ^ 49 ∧
  ∀ p H', Gr H H' → H p = none → H' p = some (.lst [nat (thr bs z m N ph), .bl (dueF bs z m N ph)]) → Q (.ref p) H'
/-- a move -/
inductive Mv where
  | new
  | old (i : Nat)
def mvV : Mv → V
  | .new => .non
  | .old i => nat i
def mvW (z : Str) : Mv → Str
  | .new => z
  | .old i => rlW z i
def MvOk (z : Str) (N : Nat) : Mv → Prop
  | .new => (dep z).length < N
  | .old i => i < (dep z).length
theorem mv_word {z : Str} {m N : Nat} {mv : Mv} (w : POk z m N) (nm : N ≤ m) (h : MvOk z N mv) : WOk (mvW z mv) m N ∧ Lf.Move N (dep z) (dep (mvW z mv)) := by
  obtain ⟨ok, m1, m2, le, n1, ones⟩ := w
  cases mv with
  | new =>
    have h : (dep z).length < N := h
    exact ⟨⟨ok, by show z.length ≤ 70000; omega, m1, by omega, le, n1, h, nm⟩, .inl ⟨h, rfl⟩⟩
  | old i =>
    have h : i < (dep z).length := h
    obtain ⟨a1, a2, a3⟩ := rlW_all ok h
    refine ⟨⟨a1, by show (rlW z i).length ≤ 70000; omega, m1, by omega, by show (rlW z i).length ≤ m; omega, n1, ?_, nm⟩, .inr ⟨i, h, a2⟩⟩
    show (dep (rlW z i)).length < N
    rw [a2, List.length_eraseIdx_of_lt h]
    omega
/-- from a safe standing each put leads to one, with some count -/
theorem keep_safe {bs : List Int} {z : Str} {m N : Nat} {ph : Int} {mv : Mv} (w : POk z m N) (nm : N ≤ m) (h : MvOk z N mv) (hs : cSafe bs z m N ph) : dueF bs (mvW z mv) m N ph = true ∧ (mvW z mv).length < m := by
  obtain ⟨w2, mo⟩ := mv_word w nm h
  obtain ⟨p1, p2⟩ := Lf.Safe.put w.m1 w.n1 (dep_ok z) w.ones mo hs
  rw [dep_head w2.ok] at p1
  refine ⟨dueF_yes (k := mostN bs (mvW z mv) m ph) p1 (Nat.le_refl _) ?_, p1⟩
  rw [safeB_iff]
  have hk := ne_of_ones (z := mvW z mv) (k := mostN bs (mvW z mv) m ph) (.inr (mostN_le ..))
  obtain ⟨_, _, b3, _⟩ := nxt_len w2 hk p1
  unfold cSafe
  rw [b3, mostN_b (by omega)]
  have e := bN_shift bs ph 1
  rw [e] at p2
  exact p2
end
end Lw

namespace Lw
open PySem PySem.Spec PyProof.Rows L2 Cy Tx
theorem lc_rng {n : Nat} {g : TG} {tt : TT} {te : TE} {vs : List Nat} {σ : L2.St} {H1 : Hp} {D : Addr} {Qd : Hp → Prop} (hn : n ≤ sizeLine) (hDn : H1 D = none) (F : Nat → Option V)
    (hs : ∀ a, a < n → ∀ (H : Hp) (R : Option V → Hp → Prop), Gr H1 H → (∀ H4, Gr H H4 → R (F a) H4) → g (.int (0 + (a : Nat))) (wipe σ vs) H fun σ2 H2 => wipe σ2 vs = wipe σ vs ∧ tt σ2 H2 fun b H3 => if b = true then te σ2 H3 (fun y H4 => R (some y) H4) else R none H3)
    (hd : ∀ H, Gr H1 H → H D = some (.lst ((List.range n).filterMap F)) → Qd H) : LcG (Itr 0 n) g tt te vs σ H1 D Qd := lc_src (inj := fun (i : Nat) => V.int (0 + (i : Nat))) (List.range n) (by
      have w := walk_range (lo := 0) (n := n)
      have e : (List.range n).length = n := List.length_range
      rw [e]
      exact w.mono (fun _ _ => trivial) (Y' := fun i H x H' => i < n ∧ H' = H ∧ x = .int (0 + (i : Nat))) fun i H x H' hi _ y => ⟨hi, y.1, y.2⟩) (by rw [List.length_range]; exact hn) hDn (fun _ _ => trivial) (fun i H x H' (y : i < n ∧ H' = H ∧ x = .int (0 + (i : Nat))) => ⟨y.2.1, i, by simp [y.1], y.2.2⟩) F (fun a ha => hs a (List.mem_range.mp ha)) hd
theorem map_int_inj : ∀ {a b : List Int}, a.map V.int = b.map V.int → a = b
  | [], [], _ => rfl
  | [], _ :: _, e => by cases e
  | _ :: _, [], e => by cases e
  | x :: r, y :: s, e => by
    rw [List.map_cons, List.map_cons, List.cons.injEq] at e
    have h1 : x = y := by have := e.1; injection this
    rw [h1, map_int_inj e.2]
section
variable {g : Wd} {j : Nat} {H : Hp}
/-- the budgets, raised one by one -/
structure BsU (bs : List Int) (U : Int) : Prop where
  l1 : 1 ≤ bs.length
  l2 : bs.length ≤ 12
  nn : ∀ b ∈ bs, 0 ≤ b ∧ b ≤ U
theorem BsU.ok {bs : List Int} {U : Int} (h : BsU bs U) (hU : U ≤ 1000) : BsOk bs := ⟨h.l1, h.l2, fun b hb => (h.nn b hb).1, fun b hb => by have := (h.nn b hb).2; omega⟩
end
end Lw

namespace Lw
open PySem PySem.Spec PyProof.Rows L2 Cy Tx
section
variable {g : Wd} {j : Nat} {H : Hp}
/-- a list of ints that a draw picks from -/
theorem t_pick (T : Top g) {sc b : Addr} {n : Int} {ns l : List Int} {Q : VK} {E : XK} (D : Dr g H sc b n ns) (hj : 2 ≤ j) (hn : n ≤ 10 ^ 9) (h0 : 0 < l.length) (hl : l.length ≤ 100)
    (h : ∀ v H', v ∈ l → Gx b H H' → Dr g H' sc b (n + 1) ns → Q (.int v) H') : (l.map V.int).length ≤ sizeLine ∧ ∀ q, H q = none → CallP g j (gad g.K "_law_take") [.ref sc, .ref b, .int (l.length : Nat)] (upd H q (.lst (l.map V.int))) (fun x H1 => cIx g.K (.ref q) x H1 Q) E := by
  refine ⟨by rw [List.length_map, sizeLine_eq]; omega, fun q hq => ?_⟩
  obtain ⟨k1, e1, D1⟩ := D.al (o := .lst (l.map V.int)) hq
  refine t_take T D1 hj hn (by omega) (by omega) fun d H1 d0 d1 k2 D2 => ?_
  obtain ⟨v, hv, av⟩ := at_int (l := l) d0 (by omega)
  exact IxR'.l (.of (off_le _ _ (k2.off _ _ e1))) av (h v H1 hv ((Gx.gr (Gr.new hq)).trans k2) D2)
end
end Lw

namespace Lw
open PySem PySem.Spec PyProof.Rows L2 Cy Tx
/-- a move that is possible with so many records -/
def MvC (c N : Nat) : Mv → Prop
  | .new => c < N
  | .old i => i < c
theorem MvC.ok {z : Str} {N : Nat} {mv : Mv} (h : MvC (dep z).length N mv) : MvOk z N mv := by cases mv <;> exact h
def mvC (c : Nat) : Mv → Nat
  | .new => c + 1
  | .old _ => c
def MvsOk (N : Nat) : Nat → List Mv → Prop
  | _, [] => True
  | c, mv :: r => MvC c N mv ∧ MvsOk N (mvC c mv) r
theorem MvsOk.snoc {N : Nat} {mv : Mv} : ∀ {l : List Mv} {c : Nat}, MvsOk N c l → MvC (l.foldl mvC c) N mv → MvsOk N c (l ++ [mv])
  | [], c, _, h => ⟨h, trivial⟩
  | x :: r, c, k, h => ⟨k.1, MvsOk.snoc k.2 h⟩
theorem MvC.le {c N : Nat} {mv : Mv} (h : MvC c N mv) (k : c ≤ N) : mvC c mv ≤ N := by
  cases mv with
  | new => exact h
  | old i => exact k
section
variable {g : Wd} {j : Nat} {H : Hp}
end
end Lw

namespace Lw
open PySem PySem.Spec PyProof.Rows L2 Cy Tx
def okV : V → Bool
  | .non => true
  | .int _ => true
  | .str x => PyData.strOk x
  | _ => false
def datV : V → PyData
  | .non => .none
  | .int i => .int i
  | .str x => .str x
  | _ => .none
theorem dpAll_flat {K : PySem.W.Frag} {H : Hp} : ∀ {l : List V}, l.all okV = true → DpAll K H l (l.map datV)
  | [], _ => .nil
  | v :: r, h => by
    rw [List.all_cons, Bool.and_eq_true] at h
    refine .cons ?_ (dpAll_flat h.2)
    have h1 := h.1
    cases v <;> first
      | exact .non
      | exact .int _
      | exact .str _
      | exact Bool.noConfusion (show false = true from h1)
theorem lay_flat : ∀ {l : List V}, l.all okV = true → PyData.canLayAll0 (l.map datV) = true
  | [], _ => by simp only [List.map_nil, PyData.canLayAll0]
  | v :: r, h => by
    rw [List.all_cons, Bool.and_eq_true] at h
    rw [List.map_cons, PyData.canLayAll0, lay_flat h.2, Bool.and_true]
    have h1 := h.1
    cases v <;> first
      | (simp only [datV, PyData.canLay0]; done)
      | (simp only [datV, PyData.canLay0]; exact h1)
theorem dep_flat : ∀ l : List V, PyData.depthAll (l.map datV) = 0
  | [] => by simp only [List.map_nil, PyData.depthAll]
  | v :: r => by
    rw [List.map_cons, PyData.depthAll, dep_flat r]
    cases v <;> simp only [datV, PyData.depth] <;> rfl
theorem shaped_flat {l : List V} (h : l.all okV = true) : SeqAt.shaped (.list (l.map datV)) = true := by
  show (PyData.canLay0 (.list (l.map datV)) && decide (PyData.depth (.list (l.map datV)) ≤ 64)) = true
  rw [Bool.and_eq_true]
  refine ⟨by simp only [PyData.canLay0]; exact lay_flat h, decide_eq_true ?_⟩
  simp only [PyData.depth]
  rw [dep_flat]
  decide
theorem eq_flat {K : PySem.W.Frag} {H : Hp} {neg : Bool} {p q : Addr} {l : List V} {Q : VK} (h : l.all okV = true) (h1 : H p = some (.lst l)) (h2 : H q = some (.lst l)) (k : Q (.bl (neg != true)) H) : EqR K p q H neg Q := by
  refine .dat (.list (l.map datV)) (.list (l.map datV)) (.lst (.of h1) (dpAll_flat h)) (.lst (.of h2) (dpAll_flat h)) (shaped_flat h) (shaped_flat h) ?_
  rw [PySem.SeqAt.eqv_refl _ (PySem.SeqAt.canLay_of_shaped (shaped_flat h))]
  exact k
theorem word_okV {z : Str} (h : okW z = true) : okV (.str z) = true := by
  have hb := ok_all h
  show z.cps.all (· < 0x110000) = true
  rw [Array.all_eq_true_iff_forall_mem]
  intro c hc
  have h1 := List.all_eq_true.mp hb c (by show c ∈ ls z; exact Array.mem_toList_iff.mpr hc)
  have h2 : c = 48 ∨ c = 49 := by
    have h1 : (c == 48 || c == 49) = true := h1
    simpa using h1
  rcases h2 with rfl | rfl <;> decide
theorem mvs_okV (l : List Mv) : (l.map mvV).all okV = true := by
  rw [List.all_eq_true]
  intro v hv
  obtain ⟨mv, _, rfl⟩ := List.mem_map.mp hv
  cases mv <;> rfl
section
variable {g : Wd} {j : Nat} {H : Hp}
def spTerms : Sp := fun vs H Q _ => ∃ (m N : Nat), vs = [nat m, nat N] ∧ 1 ≤ m ∧ 1 ≤ N ∧ N ≤ m ∧ Q .non H
theorem p_terms (T : Top g) : FnG g 6 (gad g.K "_check_terms") spTerms := fk__check_terms T 4 fun vs H Q E ⟨m, N, ev, hm, hN, nm, h⟩ => by
  subst ev
  refine ⟨rfl, CallP.by (p_at_least T (j := 2) (by decide)) (by decide) ⟨_, _, _, rfl, by decide +kernel, ?_⟩⟩
  rw [if_neg (by omega)]
  refine CallP.by (p_at_least T (j := 2) (by decide)) (by decide) ⟨_, _, _, rfl, by decide +kernel, ?_⟩
  rw [if_neg (by omega)]
  refine CallP.by (p_at_most T (j := 2) (by decide)) (by decide) ⟨_, _, _, rfl, by decide +kernel, ?_⟩
  rw [if_neg (by omega)]
  exact h
def spPm : Sp := fun vs H Q _ => ∃ (z : Str) (N : Nat), vs = [.str z, nat N] ∧ okW z = true ∧ z.length ≤ 1000 ∧ (dep z).length ≤ 1000 ∧ ∀ (q : Addr) (xs : List V) H', Gr H H' → H' q = some (.lst xs) → xs.all flatV = true → (∀ mv, MvOk z N mv → inV (mvV mv) xs = true) → Q (.ref q) H'
theorem rg_flat (a b : Int) : (rgV a b).all flatV = true := by
  rw [List.all_eq_true]
  intro v hv
  obtain ⟨i, _, rfl⟩ := List.mem_map.mp hv
  rfl
theorem rg_in {c i : Nat} (h : i < c) : nat i ∈ rgV 0 (c : Nat) := by
  refine List.mem_map.mpr ⟨i, List.mem_range.mpr (by omega), ?_⟩
  exact congrArg V.int (by omega)
theorem in_of {x : V} {xs : List V} (h : x ∈ xs) (e : eqV x x = true) : inV x xs = true := List.any_eq_true.mpr ⟨x, h, e⟩
theorem eqV_nat (i : Nat) : eqV (nat i) (nat i) = true := by show ((i : Int) == (i : Int)) = true; simp
theorem p_pm (T : Top g) : FnG g 8 (gad g.K "_possible_moves") spPm := fk__possible_moves T 6 fun vs H Q E ⟨z, N, ev, ok, hz, hd, h⟩ => by
  subst ev
  refine ⟨rfl, CallP.by (p_living T) (by decide) ⟨z, rfl, by omega, ok, ?_⟩⟩
  rw [dep_len]
  refine ⟨_, rfl, RgOk.of_le (by decide) (by omega) (by decide) (by omega), fun q hq => ?_⟩
  dsimp only [gName]
  refine CallP.by (p_living T) (by decide) ⟨z, rfl, by omega, ok, ?_⟩
  rw [dep_len]
  refine ite_i (fun c => ?_) (fun c => ?_)
  · refine ⟨(by decide : 1 ≤ sizeLine), fun q2 hq2 => ?_⟩
    refine AddR.lst [.non] (rgV 0 ((dep z).length : Nat)) upd_same ((Gr.new hq2) _ _ upd_same) (by rw [rgV_length, sizeLine_eq]; simp; omega) fun q3 hq3 => ?_
    refine h q3 _ _ ((Gr.new hq).trans ((Gr.new hq2).trans (Gr.new hq3))) upd_same (by rw [List.all_append, rg_flat]; rfl) fun mv hm => ?_
    cases mv with
    | new => exact in_of (x := .non) (List.mem_append_left _ (List.mem_singleton.mpr rfl)) rfl
    | old i => exact in_of (List.mem_append_right _ (rg_in hm)) (eqV_nat i)
  · refine h q _ _ (Gr.new hq) upd_same (rg_flat _ _) fun mv hm => ?_
    cases mv with
    | new =>
      have hm : (dep z).length < N := hm
      have := df c
      omega
    | old i => exact in_of (rg_in hm) (eqV_nat i)
end
end Lw

namespace Lw
open PySem PySem.Spec PyProof.Rows L2 Cy Tx
theorem MvC.mono {c N M : Nat} {mv : Mv} (h : MvC c N mv) (k : N ≤ M) : MvC c M mv := by
  cases mv with
  | new => exact Nat.lt_of_lt_of_le h k
  | old i => exact h
theorem pok_nil {m N : Nat} (m1 : 1 ≤ m) (m2 : m ≤ 1000) (n1 : 1 ≤ N) : POk "" m N ∧ (dep "").length = 0 := by
  have e : (dep "").length = 0 := by rw [dep_e]; rfl
  exact ⟨⟨by decide +kernel, m1, m2, by show 0 ≤ m; omega, n1, by omega⟩, e⟩
section
variable {g : Wd} {j : Nat} {H : Hp}
theorem flat_mv (mv : Mv) : flatV (mvV mv) = true := by cases mv <;> rfl
end
end Lw

namespace Lw
open PySem PySem.Spec PyProof.Rows L2 Cy Tx
section
variable {g : Wd} {j : Nat} {H : Hp}
end
end Lw

namespace Lw
open PySem PySem.Spec PyProof.Rows L2 Cy Tx
section
variable {g : Wd} {j : Nat} {H : Hp}
theorem gr_made {H : Hp} {x dx C : Addr} (hx : H x = none) (hdx : H dx = none) (hne : dx ≠ x) : Gr H (upd (upd H dx (.own x)) x (.ins C dx [])) := fun a o e => by
  rw [upd_ne (ne_of_none e hx), upd_ne (ne_of_none e hdx)]
  exact e
end
end Lw

-- of law_k56_whole_lazy_edge
namespace Lw
open PySem PySem.Spec PyProof.Rows L2 Cy Tx
abbrev Sd := Str × Nat
def mvL (N : Nat) (z : Str) : List Mv := (if (dep z).length < N then [.new] else []) ++ (List.range (dep z).length).map .old
theorem mem_mvL {N : Nat} {z : Str} {mv : Mv} : mv ∈ mvL N z ↔ MvOk z N mv := by
  unfold mvL
  rw [List.mem_append, List.mem_map]
  cases mv with
  | new =>
    show _ ↔ (dep z).length < N
    by_cases h : (dep z).length < N
    · rw [if_pos h]; exact ⟨fun _ => h, fun _ => .inl (List.mem_singleton.mpr rfl)⟩
    · rw [if_neg h]
      refine ⟨fun q => ?_, fun q => absurd q h⟩
      rcases q with q | ⟨a, _, e⟩
      · cases q
      · cases e
  | old i =>
    show _ ↔ i < (dep z).length
    constructor
    · rintro (q | ⟨a, ha, e⟩)
      · split at q
        · rw [List.mem_singleton] at q; cases q
        · cases q
      · cases e; exact List.mem_range.mp ha
    · exact fun q => .inr ⟨i, List.mem_range.mpr q, rfl⟩
/-- what a keeper may choose -/
structure CLe (c : Str → Nat → Nat) (m : Nat) : Prop where
  le : ∀ z ph, c z ph ≤ (dep z).length
  full : ∀ z ph, z.length = m → c z ph = 0
def nxS (c : Str → Nat → Nat) (m L : Nat) (s : Sd) (mv : Mv) : Option Sd := if (mvW s.1 mv).length = m then none else some (nxt (mvW s.1 mv) (c (mvW s.1 mv) s.2), (s.2 + 1) % L)
structure GdS (m N L : Nat) (s : Sd) : Prop where
  w : POk s.1 m N
  p : s.2 < L
theorem put_gd {z : Str} {m N k : Nat} {mv : Mv} (w : POk z m N) (nm : N ≤ m) (h : MvOk z N mv) (hl : (mvW z mv).length < m) (hk : k ≤ (dep (mvW z mv)).length) : POk (nxt (mvW z mv) k) m N ∧ (dep (nxt (mvW z mv) k)).length = mvC (dep z).length mv ∧ dep (nxt (mvW z mv) k) = Lf.app (Lf.cars k (dep (mvW z mv))) := by
  obtain ⟨w2, mo⟩ := mv_word w nm h
  have hxo := w2.ones
  have hkn := ne_of_ones (z := mvW z mv) (k := k) (.inr hk)
  obtain ⟨b1, b2, b3, b4⟩ := nxt_len w2 hkn hl
  refine ⟨⟨b1, w.m1, w.m2, by omega, w.n1, by omega⟩, ?_, b3⟩
  rw [b4]
  cases mv with
  | new => rfl
  | old i =>
    have hi : i < (dep z).length := h
    obtain ⟨_, a2, _⟩ := rlW_all w.ok hi
    show (dep (rlW z i)).length + 1 = (dep z).length
    rw [a2, List.length_eraseIdx_of_lt hi]
    omega
theorem nxS_gd {c : Str → Nat → Nat} {m N L : Nat} (hc : CLe c m) (nm : N ≤ m) (hL : 0 < L) {s s' : Sd} {mv : Mv} (g : GdS m N L s) (h : MvOk s.1 N mv) (e : nxS c m L s mv = some s') : GdS m N L s' ∧ (dep s'.1).length = mvC (dep s.1).length mv := by
  unfold nxS at e
  split at e
  · cases e
  · rename_i q
    cases e
    obtain ⟨w2, _⟩ := mv_word g.w nm h
    obtain ⟨a1, a2, _⟩ := put_gd (k := c (mvW s.1 mv) s.2) g.w nm h (by have := w2.le; omega) (hc.le _ _)
    exact ⟨⟨a1, Nat.mod_lt _ hL⟩, a2⟩
def cdL : List Nat → Nat
  | [] => 1
  | c :: r => (c - 48) + 2 * cdL r
theorem cdL_pos : ∀ l, 1 ≤ cdL l
  | [] => Nat.le_refl _
  | c :: r => by have := cdL_pos r; unfold cdL; omega
theorem bit_or {c : Nat} (h : Bit c = true) : c = 48 ∨ c = 49 := by
  have h : (c == 48 || c == 49) = true := h
  simpa using h
theorem cdL_lt : ∀ {l : List Nat}, l.all Bit = true → cdL l < 2 ^ (l.length + 1)
  | [], _ => by decide
  | c :: r, h => by
    rw [List.all_cons, Bool.and_eq_true] at h
    have ih := cdL_lt h.2
    unfold cdL
    rw [List.length_cons, Nat.pow_succ]
    rcases bit_or h.1 with rfl | rfl <;> omega
theorem cdL_inj : ∀ {l l' : List Nat}, l.all Bit = true → l'.all Bit = true → cdL l = cdL l' → l = l'
  | [], [], _, _, _ => rfl
  | [], c :: r, _, _, e => by have := cdL_pos r; unfold cdL at e; omega
  | c :: r, [], _, _, e => by have := cdL_pos r; unfold cdL at e; omega
  | c :: r, c' :: r', h, h', e => by
    rw [List.all_cons, Bool.and_eq_true] at h h'
    unfold cdL at e
    rcases bit_or h.1 with rfl | rfl <;> rcases bit_or h'.1 with rfl | rfl
    · rw [cdL_inj h.2 h'.2 (by omega)]
    · omega
    · omega
    · rw [cdL_inj h.2 h'.2 (by omega)]
def code (L : Nat) (s : Sd) : Nat := cdL (ls s.1) * L + s.2
theorem code_lt {m N L : Nat} {s : Sd} (g : GdS m N L s) : code L s < 2 ^ (m + 1) * L := by
  have h1 := cdL_lt (ok_all g.w.ok)
  have h2 : 2 ^ ((ls s.1).length + 1) ≤ 2 ^ (m + 1) := Nat.pow_le_pow_right (by decide) (by have := g.w.le; rw [ls_len] at this; omega)
  have h3 : (cdL (ls s.1) + 1) * L ≤ 2 ^ (m + 1) * L := Nat.mul_le_mul_right L (by omega)
  have h4 := g.p
  have h5 : (cdL (ls s.1) + 1) * L = cdL (ls s.1) * L + L := by rw [Nat.add_mul, Nat.one_mul]
  unfold code
  omega
theorem code_inj {m N L : Nat} {s s' : Sd} (g : GdS m N L s) (g' : GdS m N L s') (e : code L s = code L s') : s = s' := by
  unfold code at e
  have h1 := g.p
  have h2 := g'.p
  have e1 : (cdL (ls s.1) * L + s.2) / L = (cdL (ls s'.1) * L + s'.2) / L := by rw [e]
  have e2 : (cdL (ls s.1) * L + s.2) % L = (cdL (ls s'.1) * L + s'.2) % L := by rw [e]
  have m1 : ∀ a b : Nat, b < L → (a * L + b) % L = b := fun a b hb => by rw [Nat.add_comm, Nat.add_mul_mod_self_right, Nat.mod_eq_of_lt hb]
  have m2 : ∀ a b : Nat, b < L → (a * L + b) / L = a := fun a b hb => by rw [Nat.add_comm, Nat.add_mul_div_right _ _ (by omega), Nat.div_eq_of_lt hb, Nat.zero_add]
  rw [m1 _ _ h1, m1 _ _ h2] at e2
  rw [m2 _ _ h1, m2 _ _ h2] at e1
  exact Prod.ext (ls_ext (cdL_inj (ok_all g.w.ok) (ok_all g'.w.ok) (by omega))) e2
theorem nodup_bound : ∀ (B : Nat) (l : List Nat), l.Nodup → (∀ x ∈ l, x < B) → l.length ≤ B
  | 0, l, _, h => by
    cases l with
    | nil => exact Nat.le_refl _
    | cons a r => exact absurd (h a (List.mem_cons_self)) (Nat.not_lt_zero _)
  | B + 1, l, nd, h => by
    have ih := nodup_bound B (l.erase B) (nd.erase B) (fun x hx => by
      have h1 := (nd.mem_erase_iff).mp hx
      have := h x h1.2
      have := h1.1
      omega)
    by_cases hB : B ∈ l
    · have := List.length_erase_of_mem hB
      omega
    · rw [List.erase_of_not_mem hB] at ih
      omega
theorem few_states {m N L : Nat} {l : List Sd} (nd : l.Nodup) (h : ∀ s ∈ l, GdS m N L s) : l.length ≤ 2 ^ (m + 1) * L := by
  have h1 := nodup_bound (2 ^ (m + 1) * L) (l.map (code L)) ?_ ?_
  · rw [List.length_map] at h1; exact h1
  · unfold List.Nodup
    rw [List.pairwise_map]
    exact List.Pairwise.imp_of_mem (fun ha hb q e => q (code_inj (h _ ha) (h _ hb) e)) nd
  · intro x hx
    obtain ⟨s, hs, rfl⟩ := List.mem_map.mp hx
    exact code_lt (h s hs)
end Lw
-- of law_k56_whole_lazy_edge
namespace Lw
open PySem PySem.Spec PyProof.Rows L2 Cy Tx
structure Bf where
  qs : List Sd
  os : List (Option (Nat × Mv))
  st : Option (Nat × Mv)
def tryM (c : Str → Nat → Nat) (m L j : Nat) (s : Sd) (b : Bf) (mv : Mv) : Bf := match nxS c m L s mv with
  | none => ⟨b.qs, b.os, match b.st with | none => some (j, mv) | some x => some x⟩
  | some s' => if s' ∈ b.qs then b else ⟨b.qs ++ [s'], b.os ++ [some (j, mv)], b.st⟩
def turn (c : Str → Nat → Nat) (N m L n : Nat) (b : Bf) : Bf := match b.qs[n]? with
  | none => b
  | some s => (mvL N s.1).foldl (tryM c m L n s) b
def Bf0 : Bf := ⟨[("", 0)], [none], none⟩
def runB (c : Str → Nat → Nat) (N m L : Nat) : Nat → Bf
  | 0 => Bf0
  | n + 1 => turn c N m L n (runB c N m L n)
def Cl (c : Str → Nat → Nat) (m L : Nat) (b : Bf) (s : Sd) (mv : Mv) : Prop := (∀ s', nxS c m L s mv = some s' → s' ∈ b.qs) ∧ (nxS c m L s mv = none → b.st ≠ none)
structure BI (c : Str → Nat → Nat) (N m L n : Nat) (l : List Mv) (b : Bf) : Prop where
  len : b.os.length = b.qs.length
  hd : b.qs[0]? = some ((("" : Str), 0) : Sd) ∧ b.os[0]? = some none
  fr : ∀ i s, b.qs[i]? = some s → i ≠ 0 → ∃ j mv t, b.os[i]? = some (some (j, mv)) ∧ j < i ∧ b.qs[j]? = some t ∧ MvOk t.1 N mv ∧ nxS c m L t mv = some s
  nd : b.qs.Nodup
  gd : ∀ s ∈ b.qs, GdS m N L s
  stl : ∀ j mv, b.st = some (j, mv) → ∃ t, b.qs[j]? = some t ∧ MvOk t.1 N mv ∧ nxS c m L t mv = none
  cl : ∀ i s, i < n → b.qs[i]? = some s → ∀ mv, MvOk s.1 N mv → Cl c m L b s mv
  cln : ∀ s, b.qs[n]? = some s → ∀ mv ∈ l, Cl c m L b s mv
section
variable {c : Str → Nat → Nat} {N m L : Nat}
theorem get_app {α : Type} {l : List α} {a x : α} {i : Nat} (h : (l ++ [a])[i]? = some x) : (l[i]? = some x ∧ i < l.length) ∨ (i = l.length ∧ x = a) := by
  by_cases q : i < l.length
  · rw [List.getElem?_append_left q] at h; exact .inl ⟨h, q⟩
  · rw [List.getElem?_append_right (by omega)] at h
    have e : i - l.length = 0 := by
      cases e : i - l.length with
      | zero => rfl
      | succ k => rw [e] at h; simp at h
    rw [e] at h
    simp at h
    exact .inr ⟨by omega, h.symm⟩
theorem get_old {α : Type} {l : List α} {a x : α} {i : Nat} (h : l[i]? = some x) : (l ++ [a])[i]? = some x := by
  have q := (List.getElem?_eq_some_iff.mp h).1
  rw [List.getElem?_append_left q]; exact h
theorem BI.step (hc : CLe c m) (nm : N ≤ m) (hL : 0 < L) {n : Nat} {l : List Mv} {b : Bf} {s : Sd} {mv : Mv} (h : BI c N m L n l b) (hs : b.qs[n]? = some s) (hm : MvOk s.1 N mv) : BI c N m L n (l ++ [mv]) (tryM c m L n s b mv) := by
  have hg := h.gd s (List.mem_of_getElem? hs)
  have nl : n < b.qs.length := (List.getElem?_eq_some_iff.mp hs).1
  unfold tryM
  cases e : nxS c m L s mv with
  | none =>
    have st2 : (match b.st with | none => some (n, mv) | some x => some x) ≠ none := by cases b.st <;> exact fun q => by cases q
    have keep : ∀ s mv, Cl c m L b s mv → Cl c m L ⟨b.qs, b.os, match b.st with | none => some (n, mv) | some x => some x⟩ s mv := fun s' mv' q => ⟨q.1, fun z => by
      have := q.2 z
      show (match b.st with | none => some (n, mv') | some x => some x) ≠ none
      cases e : b.st with
      | none => exact absurd e this
      | some x => exact fun q => by cases q⟩
    have keep2 : ∀ s mv', Cl c m L b s mv' → Cl c m L ⟨b.qs, b.os, match b.st with | none => some (n, mv) | some x => some x⟩ s mv' := fun s' mv' q => ⟨q.1, fun _ => st2⟩
    refine ⟨h.len, h.hd, h.fr, h.nd, h.gd, fun j mv' q => ?_, fun i t hi ht mv' hm' => keep2 _ _ (h.cl i t hi ht mv' hm'), fun t ht mv' hm' => ?_⟩
    · cases e2 : b.st with
      | none =>
        have q : (match b.st with | none => some (n, mv) | some x => some x) = some (j, mv') := q
        rw [e2] at q
        cases q
        exact ⟨s, hs, hm, e⟩
      | some x =>
        have q : (match b.st with | none => some (n, mv) | some x => some x) = some (j, mv') := q
        rw [e2] at q
        exact h.stl j mv' (e2.trans q)
    · have ht : b.qs[n]? = some t := ht
      rw [hs] at ht
      cases ht
      rcases List.mem_append.mp hm' with hm' | hm'
      · exact keep2 _ _ (h.cln _ hs mv' hm')
      · rw [List.mem_singleton] at hm'
        subst hm'
        exact ⟨fun s' q => (by rw [e] at q; cases q), fun _ => st2⟩
  | some s' =>
    show BI c N m L n (l ++ [mv]) (if s' ∈ b.qs then b else ⟨b.qs ++ [s'], b.os ++ [some (n, mv)], b.st⟩)
    by_cases q : s' ∈ b.qs
    · rw [if_pos q]
      refine ⟨h.len, h.hd, h.fr, h.nd, h.gd, h.stl, h.cl, fun t ht mv' hm' => ?_⟩
      rcases List.mem_append.mp hm' with hm' | hm'
      · exact h.cln t ht mv' hm'
      · rw [List.mem_singleton] at hm'
        subst hm'
        rw [hs] at ht
        cases ht
        exact ⟨fun s2 z => (by rw [e] at z; cases z; exact q), fun z => (by rw [e] at z; cases z)⟩
    · rw [if_neg q]
      have g' := (nxS_gd hc nm hL hg hm e).1
      have keep : ∀ s mv', Cl c m L b s mv' → Cl c m L ⟨b.qs ++ [s'], b.os ++ [some (n, mv)], b.st⟩ s mv' := fun t mv' z => ⟨fun s2 z2 => List.mem_append_left _ (z.1 s2 z2), z.2⟩
      refine ⟨by show (b.os ++ _).length = (b.qs ++ _).length; rw [List.length_append, List.length_append, h.len]; rfl, ⟨get_old h.hd.1, get_old h.hd.2⟩, fun i t ht hi => ?_, ?_, fun t ht => ?_, fun j mv' z => ?_, fun i t hi ht mv' hm' => ?_, fun t ht mv' hm' => ?_⟩
      · rcases get_app ht with ⟨ht, il⟩ | ⟨ei, et⟩
        · obtain ⟨j, mv2, t2, a1, a2, a3, a4, a5⟩ := h.fr i t ht hi
          exact ⟨j, mv2, t2, get_old a1, a2, get_old a3, a4, a5⟩
        · subst et
          refine ⟨n, mv, s, ?_, by omega, get_old hs, hm, e⟩
          show (b.os ++ [some (n, mv)])[i]? = _
          rw [ei, ← h.len, List.getElem?_append_right (Nat.le_refl _), Nat.sub_self]
          rfl
      · show (b.qs ++ [s']).Nodup
        rw [List.nodup_append]
        refine ⟨h.nd, List.nodup_cons.mpr ⟨by simp, List.nodup_nil⟩, fun a ha b' hb' => ?_⟩
        rw [List.mem_singleton] at hb'
        subst hb'
        exact fun z => q (z ▸ ha)
      · rcases List.mem_append.mp ht with ht | ht
        · exact h.gd t ht
        · rw [List.mem_singleton] at ht
          subst ht
          exact g'
      · obtain ⟨t, a1, a2, a3⟩ := h.stl j mv' z
        exact ⟨t, get_old a1, a2, a3⟩
      · have ht : (b.qs ++ [s'])[i]? = some t := ht
        rw [List.getElem?_append_left (by omega)] at ht
        exact keep _ _ (h.cl i t hi ht mv' hm')
      · have ht : (b.qs ++ [s'])[n]? = some t := ht
        rw [List.getElem?_append_left nl, hs] at ht
        cases ht
        rcases List.mem_append.mp hm' with hm' | hm'
        · exact keep _ _ (h.cln _ hs mv' hm')
        · rw [List.mem_singleton] at hm'
          subst hm'
          exact ⟨fun s2 z => (by rw [e] at z; cases z; exact List.mem_append_right _ (List.mem_singleton.mpr rfl)), fun z => (by rw [e] at z; cases z)⟩
theorem tryM_get {n : Nat} {b : Bf} {s t : Sd} {mv : Mv} {i : Nat} (h : b.qs[i]? = some t) : (tryM c m L n s b mv).qs[i]? = some t := by
  unfold tryM
  cases nxS c m L s mv with
  | none => exact h
  | some s' =>
    show (if s' ∈ b.qs then b else ⟨b.qs ++ [s'], b.os ++ [some (n, mv)], b.st⟩ : Bf).qs[i]? = some t
    split
    · exact h
    · exact get_old h
theorem fold_get {n : Nat} {s t : Sd} {i : Nat} : ∀ {l : List Mv} {b : Bf}, b.qs[i]? = some t → (l.foldl (tryM c m L n s) b).qs[i]? = some t
  | [], _, h => h
  | mv :: r, b, h => by
    show (r.foldl (tryM c m L n s) (tryM c m L n s b mv)).qs[i]? = some t
    exact fold_get (l := r) (tryM_get h)
theorem BI.fold (hc : CLe c m) (nm : N ≤ m) (hL : 0 < L) {n : Nat} {s : Sd} : ∀ {r l : List Mv} {b : Bf}, BI c N m L n l b → b.qs[n]? = some s → (∀ mv ∈ r, MvOk s.1 N mv) → BI c N m L n (l ++ r) (r.foldl (tryM c m L n s) b)
  | [], l, b, h, _, _ => by rw [List.append_nil]; exact h
  | mv :: r, l, b, h, hs, hm => by
    have := BI.fold hc nm hL (r := r) (h.step hc nm hL hs (hm mv List.mem_cons_self)) (tryM_get hs) (fun x hx => hm x (List.mem_cons_of_mem _ hx))
    rw [List.append_assoc] at this
    exact this
theorem BI.turn (hc : CLe c m) (nm : N ≤ m) (hL : 0 < L) {n : Nat} {b : Bf} (h : BI c N m L n [] b) : BI c N m L (n + 1) [] (turn c N m L n b) := by
  unfold Lw.turn
  cases e : b.qs[n]? with
  | none =>
    refine ⟨h.len, h.hd, h.fr, h.nd, h.gd, h.stl, fun i t hi ht mv hm => ?_, fun _ _ _ hm => (by cases hm)⟩
    by_cases q : i = n
    · subst q; rw [e] at ht; cases ht
    · exact h.cl i t (by omega) ht mv hm
  | some s =>
    have k := BI.fold hc nm hL (r := mvL N s.1) h e (fun mv hm => mem_mvL.mp hm)
    refine ⟨k.len, k.hd, k.fr, k.nd, k.gd, k.stl, fun i t hi ht mv hm => ?_, fun _ _ _ hm => (by cases hm)⟩
    by_cases q : i = n
    · subst q
      have e2 : t = s := by
        have := fold_get (c := c) (m := m) (L := L) (n := i) (s := s) (l := mvL N s.1) e
        rw [this] at ht; cases ht; rfl
      subst e2
      exact k.cln t ht mv (List.mem_append_right _ (mem_mvL.mpr hm))
    · exact k.cl i t (by omega) ht mv hm
theorem run_bi (hc : CLe c m) (nm : N ≤ m) (hL : 0 < L) (hN : 1 ≤ N) (hm : m ≤ 1000) : ∀ n, BI c N m L n [] (runB c N m L n)
  | 0 => by
    obtain ⟨w0, c0⟩ := pok_nil (m := m) (N := N) (by omega) hm hN
    refine ⟨rfl, ⟨rfl, rfl⟩, fun i s h hi => ?_, List.nodup_cons.mpr ⟨by simp, List.nodup_nil⟩, fun s hs => ?_, fun j mv h => (by cases h), fun i s hi => absurd hi (Nat.not_lt_zero _), fun _ _ _ hm => (by cases hm)⟩
    · cases i with
      | zero => exact absurd rfl hi
      | succ i => simp [runB, Bf0] at h
    · have hs : s ∈ [(("" : Str), 0)] := hs
      rw [List.mem_singleton] at hs
      subst hs
      exact ⟨w0, hL⟩
  | n + 1 => (run_bi hc nm hL hN hm n).turn hc nm hL
def plR (c : Str → Nat → Nat) (m L : Nat) : Sd → List Mv → Option Sd
  | s, [] => some s
  | s, mv :: r => match nxS c m L s mv with
    | none => none
    | some s' => plR c m L s' r
theorem plR_snoc {mv : Mv} : ∀ {r : List Mv} {s t : Sd}, plR c m L s r = some t → plR c m L s (r ++ [mv]) = nxS c m L t mv
  | [], s, t, h => by
    cases h
    show (match nxS c m L s mv with | none => none | some s' => some s') = _
    cases nxS c m L s mv <;> rfl
  | x :: r, s, t, h => by
    show (match nxS c m L s x with | none => none | some s' => plR c m L s' (r ++ [mv])) = _
    have h : (match nxS c m L s x with | none => none | some s' => plR c m L s' r) = some t := h
    cases e : nxS c m L s x with
    | none => rw [e] at h; cases h
    | some s' => rw [e] at h; exact plR_snoc h
theorem MvC.mk {z : Str} {mv : Mv} (h : MvOk z N mv) : MvC (dep z).length N mv := by cases mv <;> exact h
theorem plR_gd (hc : CLe c m) (nm : N ≤ m) (hL : 0 < L) : ∀ {r : List Mv} {s t : Sd}, GdS m N L s → MvsOk N (dep s.1).length r → plR c m L s r = some t → GdS m N L t ∧ (dep t.1).length = r.foldl mvC (dep s.1).length
  | [], s, t, g, _, h => by cases h; exact ⟨g, rfl⟩
  | x :: r, s, t, g, mo, h => by
    have h : (match nxS c m L s x with | none => none | some s' => plR c m L s' r) = some t := h
    cases e : nxS c m L s x with
    | none => rw [e] at h; cases h
    | some s' =>
      rw [e] at h
      obtain ⟨g', l'⟩ := nxS_gd hc nm hL g mo.1.ok e
      have := plR_gd hc nm hL (r := r) g' (by rw [l']; exact mo.2) h
      rw [l'] at this
      exact this
def backL (os : List (Option (Nat × Mv))) : Nat → Nat → List Mv
  | 0, _ => []
  | f + 1, i => match os[i]? with
    | some (some (j, mv)) => backL os f j ++ [mv]
    | _ => []
theorem back_at {os : List (Option (Nat × Mv))} {f i j : Nat} {mv : Mv} (e : os[i]? = some (some (j, mv))) : backL os (f + 1) i = backL os f j ++ [mv] := by
  show (match os[i]? with | some (some (j, mv)) => backL os f j ++ [mv] | _ => []) = _
  rw [e]
theorem back_0 {os : List (Option (Nat × Mv))} {f : Nat} (e : os[0]? = some none) : backL os f 0 = [] := by
  cases f with
  | zero => rfl
  | succ f =>
    show (match os[0]? with | some (some (j, mv)) => backL os f j ++ [mv] | _ => []) = _
    rw [e]
theorem back_ok (hc : CLe c m) (nm : N ≤ m) (hL : 0 < L) {n : Nat} {l : List Mv} {b : Bf} (h : BI c N m L n l b) (c0 : (dep "").length = 0) : ∀ (f i : Nat) (s : Sd), i ≤ f → b.qs[i]? = some s → plR c m L ("", 0) (backL b.os f i) = some s ∧ MvsOk N 0 (backL b.os f i)
  | f, 0, s, _, hs => by
    rw [back_0 h.hd.2]
    rw [h.hd.1] at hs
    cases hs
    exact ⟨rfl, trivial⟩
  | 0, i + 1, s, hi, _ => by omega
  | f + 1, i + 1, s, hi, hs => by
    obtain ⟨j, mv, t, a1, a2, a3, a4, a5⟩ := h.fr (i + 1) s hs (by omega)
    rw [back_at a1]
    obtain ⟨p1, p2⟩ := back_ok hc nm hL h c0 f j t (by omega) a3
    refine ⟨by rw [plR_snoc p1]; exact a5, p2.snoc ?_⟩
    have g0 := h.gd _ (List.mem_of_getElem? h.hd.1)
    have := (plR_gd hc nm hL g0 (by rw [c0]; exact p2) p1).2
    rw [c0] at this
    rw [← this]
    exact MvC.mk a4
/-- what is not met -/
theorem none_met (hc : CLe c m) (nm : N ≤ m) (hL : 0 < L) {n : Nat} {b : Bf} (h : BI c N m L n [] b) (hn : b.qs.length ≤ n) (hst : b.st = none) : ∀ (r : List Mv) (s : Sd), s ∈ b.qs → MvsOk N (dep s.1).length r → plR c m L s r ≠ none
  | [], s, _, _ => fun e => by cases e
  | mv :: r, s, hs, mo => by
    obtain ⟨i, hi, e⟩ := List.getElem_of_mem hs
    have e2 : b.qs[i]? = some s := by rw [List.getElem?_eq_getElem hi, e]
    have k := h.cl i s (by omega) e2 mv mo.1.ok
    show (match nxS c m L s mv with | none => none | some s' => plR c m L s' r) ≠ none
    cases q : nxS c m L s mv with
    | none => exact absurd hst (k.2 q)
    | some s' =>
      obtain ⟨_, l'⟩ := nxS_gd hc nm hL (h.gd s hs) mo.1.ok q
      exact none_met hc nm hL h hn hst r s' (k.1 s' q) (by rw [l']; exact mo.2)
end
end Lw
-- of law_k56_whole_lazy_edge
namespace Lw
open PySem PySem.Spec PyProof.Rows L2 Cy Tx
def spCho (g : Wd) (KP : Addr → Hp → Prop) (c : Str → Nat → Nat) (m N : Nat) (bs : List Int) : Sp := fun vs H Q _ => ∃ (k : Addr) (z : Str) (r : Addr) (ph : Nat), vs = [.ref k, .str z, nat m, .ref r, nat ph] ∧ KP k H ∧ WOk z m N ∧ ph < bs.length ∧ RoundAt g H r bs ∧ ∀ H', Gr H H' → Q (nat (c z ph)) H'
structure Kf (g : Wd) (lv : Nat) (KP : Addr → Hp → Prop) (c : Str → Nat → Nat) (m N : Nat) (bs : List Int) : Prop where
  gr : ∀ {k : Addr} {H H' : Hp}, Gr H H' → KP k H → KP k H'
  ch : ∀ {k : Addr} {H : Hp}, KP k H → ∃ (C dx f : Addr) (fs : List (Str × V)), H k = some (.ins C dx fs) ∧ Cls g.K C ∧ Meth g.K C "choose" f ∧ fs.lookup ("choose" : Str) = none ∧ FnG g lv f (spCho g KP c m N bs)
  le : CLe c m
section
variable {g : Wd} {j : Nat} {H : Hp} {lv : Nat} {KP : Addr → Hp → Prop} {c : Str → Nat → Nat} {m N : Nat} {bs : List Int}
def spPm2 (N : Nat) : Sp := fun vs H Q _ => ∃ (z : Str), vs = [.str z, nat N] ∧ okW z = true ∧ z.length ≤ 1000 ∧ (dep z).length ≤ 1000 ∧ ∀ (q : Addr) H', Gr H H' → H' q = some (.lst ((mvL N z).map mvV)) → Q (.ref q) H'
theorem rg_mv (n : Nat) : rgV 0 (n : Nat) = ((List.range n).map Mv.old).map mvV := by
  unfold rgV
  rw [List.map_map]
  have e : (((n : Nat) : Int) - 0).toNat = n := by omega
  rw [e]
  refine List.map_congr_left fun i _ => ?_
  show V.int (0 + (i : Nat)) = V.int (i : Nat)
  rw [Int.zero_add]
theorem p_pm2 (T : Top g) : FnG g 8 (gad g.K "_possible_moves") (spPm2 N) := fk__possible_moves T 6 fun vs H Q E ⟨z, ev, ok, hz, hd, h⟩ => by
  subst ev
  refine ⟨rfl, CallP.by (p_living T) (by decide) ⟨z, rfl, by omega, ok, ?_⟩⟩
  rw [dep_len]
  refine ⟨_, rfl, RgOk.of_le (by decide) (by omega) (by decide) (by omega), fun q hq => ?_⟩
  dsimp only [gName]
  refine CallP.by (p_living T) (by decide) ⟨z, rfl, by omega, ok, ?_⟩
  rw [dep_len]
  refine ite_i (fun q1 => ?_) (fun q1 => ?_)
  · have c1 := of_decide_eq_true q1
    refine ⟨(by decide : 1 ≤ sizeLine), fun q2 hq2 => ?_⟩
    refine AddR.lst [.non] (rgV 0 ((dep z).length : Nat)) upd_same ((Gr.new hq2) _ _ upd_same) (by rw [rgV_length, sizeLine_eq]; simp; omega) fun q3 hq3 => ?_
    refine h q3 _ ((Gr.new hq).trans ((Gr.new hq2).trans (Gr.new hq3))) ?_
    rw [upd_same, rg_mv]
    unfold mvL
    rw [if_pos (by omega), List.map_append]
    rfl
  · have c1 := of_decide_eq_false q1
    refine h q _ (Gr.new hq) ?_
    rw [upd_same, rg_mv]
    unfold mvL
    rw [if_neg (by omega)]
    rfl
/-- one put -/
def spAft2 (g : Wd) (KP : Addr → Hp → Prop) (c : Str → Nat → Nat) (m N : Nat) (bs : List Int) : Sp := fun vs H Q _ => ∃ (k s r : Addr) (st : Sd) (mv : Mv), vs = [.ref k, .ref s, mvV mv, nat m, .ref r] ∧ KP k H ∧ H s = some (.tup [.str st.1, nat st.2]) ∧ GdS m N bs.length st ∧ N ≤ m ∧ MvOk st.1 N mv ∧ RoundAt g H r bs ∧ bs.length ≤ 12 ∧
  (nxS c m bs.length st mv = none → ∀ H', Gr H H' → Q .non H') ∧ (∀ s', nxS c m bs.length st mv = some s' → ∀ p H', Gr H H' → H p = none → H' p = some (.tup [.str s'.1, nat s'.2]) → Q (.ref p) H')
theorem p_aft2 (T : Top g) (hlv : lv ≤ 20) (F : Kf g lv KP c m N bs) : FnG g 22 (gad g.K "_after_put") (spAft2 g KP c m N bs) := fk__after_put T 20 fun vs H Q E ⟨k, s, r, ⟨z, ph⟩, mv, ev, hk, hs, gd, nm, hm, hr, l12, hA, hB⟩ => by
  subst ev
  have w := gd.w
  have php : ph < bs.length := gd.p
  obtain ⟨w2, mo⟩ := mv_word w nm hm
  obtain ⟨ok, m1, m2, le, n1, ones⟩ := id w
  refine ⟨rfl, UnpP.t rfl (.of hs) rfl ?_⟩
  dsimp only [cgCons, cgNil, gName]
  refine seq_cutR (fun σ' H2 => Gr H H2 ∧ σ' = [some (.ref k), some (.ref s), some (mvV mv), some (nat m), some (.ref r), some (.str (mvW z mv)), some (nat ph), none]) (fun N' hN => ?_) ?_
  · cases mv with
    | new => exact hN _ _ ⟨Gr.refl, rfl⟩
    | old i => exact CallP.by (p_rls T) (by decide) ⟨z, i, rfl, by have le2 : z.length ≤ m := le; omega, ok, hm, fun H1 k1 => hN _ _ ⟨k1, rfl⟩⟩
  · rintro σ' H1 ⟨k1, rfl⟩
    unfold nxS at hA hB
    have hA : (mvW z mv).length = m → ∀ H', Gr H H' → Q .non H' := fun e => hA (if_pos e)
    have hB : (mvW z mv).length ≠ m → ∀ p H', Gr H H' → H p = none → H' p = some (.tup [.str (nxt (mvW z mv) (c (mvW z mv) ph)), nat ((ph + 1) % bs.length)]) → Q (.ref p) H' := fun e => hB _ (if_neg e)
    generalize hx : mvW z mv = x at *
    have wl := w2.le
    obtain ⟨C, dx, f, fs, a1, a2, a3, a4, a5⟩ := F.ch (F.gr k1 hk)
    refine MethP.own rfl a1 a2 a3 a4 ?_
    refine CallP.by a5 hlv ⟨k, x, r, ph, rfl, F.gr k1 hk, w2, php, hr.gr k1, fun H2 k2 => ?_⟩
    dsimp only [gName]
    have k12 := k1.trans k2
    have htl := F.le.le x ph
    have hxo := w2.ones
    have hkn := ne_of_ones (z := x) (k := c x ph) (.inr htl)
    obtain ⟨b1, b2, b3, b4⟩ := lcs_all (c x ph) w2.ok hkn
    refine CallP.by (p_crs T) (by decide) ⟨x, c x ph, m, rfl, by omega, by omega, w2.ok, m1, wl, ?_, fun H3 k3 => ?_⟩
    · by_cases e : x.length = m
      · exact .inl (F.le.full x ph e)
      · rcases hkn with q | q
        · exact .inl q
        · exact .inr ⟨q, by omega⟩
    dsimp only [gName]
    have k13 := k12.trans k3
    by_cases e : x.length = m
    · rw [F.le.full x ph e]
      refine ⟨ml (by show x.length ≤ 100000; omega), ite_i (fun q => hA e _ k13) (fun q => ?_)⟩
      have := df0 q
      have e2 : (lcs 0 x).length = x.length := rfl
      omega
    · have hl : x.length < m := by omega
      refine ⟨ml (by omega), ite_i (fun q => ?_) (fun q => ?_)⟩
      · have := dt0 q; omega
      refine CallP.by (p_apr T) (by decide) ⟨_, m, rfl, by omega, b1, by omega, by omega, fun H4 k4 => ?_⟩
      rw [apd_strip b1]
      have k14 := k13.trans k4
      obtain ⟨dx2, tt, hi1⟩ := ra_ins (hr.gr k14)
      refine LenP.own hi1 (du_Round_len T).1 (du_Round_len T).2 (p_rlen T) (by decide) ⟨r, bs, rfl, hr.gr k14, _, rfl, by omega, by omega, ?_⟩
      refine ⟨by omega, ⟨(by decide : 2 ≤ sizeLine), fun p hp => ?_⟩⟩
      have hp0 : H p = none := by
        cases q : H p with
        | none => rfl
        | some o => rw [k14 _ _ q] at hp; cases hp
      refine hB e p _ (gr_upd k14 hp0) hp0 ?_
      rw [upd_same]
      exact congrArg (fun v : Int => some (HO.tup [V.str (nxt x (c x ph)), V.int v])) (by rw [Int.natCast_emod, Int.natCast_add]; rfl)
def plG (c : Str → Nat → Nat) (m L : Nat) : Sd → List Mv → List Str
  | _, [] => []
  | s, mv :: r => match nxS c m L s mv with
    | none => []
    | some s' => s'.1 :: plG c m L s' r
theorem plG_cons (L : Nat) (s : Sd) (mv : Mv) (r : List Mv) : plG c m L s (mv :: r) = match nxS c m L s mv with | none => [] | some s' => s'.1 :: plG c m L s' r := rfl
theorem plG_words {L : Nat} (hc : CLe c m) (nm : N ≤ m) (hL : 0 < L) : ∀ {r : List Mv} {s : Sd}, GdS m N L s → MvsOk N (dep s.1).length r → ((plG c m L s r).map V.str).all okV = true ∧ (plG c m L s r).length ≤ r.length
  | [], s, _, _ => ⟨rfl, Nat.le_refl _⟩
  | mv :: r, s, g, mo => by
    rw [plG_cons]
    cases e : nxS c m L s mv with
    | none => exact ⟨rfl, Nat.zero_le _⟩
    | some s' =>
      obtain ⟨g', l'⟩ := nxS_gd hc nm hL g mo.1.ok e
      obtain ⟨q1, q2⟩ := plG_words hc nm hL (r := r) g' (by rw [l']; exact mo.2)
      show ((V.str s'.1 :: (plG c m L s' r).map V.str).all okV = true) ∧ _
      rw [List.all_cons, q1, word_okV g'.w.ok]
      exact ⟨rfl, Nat.succ_le_succ q2⟩
def spRun2 (g : Wd) (KP : Addr → Hp → Prop) (c : Str → Nat → Nat) (m N : Nat) (bs : List Int) : Sp := fun vs H Q _ => ∃ (k mp r : Addr) (mvs : List Mv) (tl : List V), vs = [.ref k, .ref mp, nat m, nat N, .ref r] ∧ KP k H ∧ H mp = some (.lst (mvs.map mvV ++ tl)) ∧ mvs.length ≤ 1000 ∧ MvsOk N 0 mvs ∧ 1 ≤ N ∧ N ≤ m ∧ m ≤ 1000 ∧ RoundAt g H r bs ∧ BsOk bs ∧ (tl = [] ∨ (plG c m bs.length ("", 0) mvs).length < mvs.length) ∧
  ∀ q H', Gr H H' → H q = none → H' q = some (.lst ((plG c m bs.length ("", 0) mvs).map V.str)) → Q (.ref q) H'
theorem p_run2 (T : Top g) (hlv : lv ≤ 20) (F : Kf g lv KP c m N bs) : FnG g 24 (gad g.K "run_row") (spRun2 g KP c m N bs) := fk_run_row T 22 fun vs H Q E ⟨k, mp, r, mvs, tl, ev, hk, hmp, lm, mo, hN, nm, m2, hr, bo, htl, h⟩ => by
  subst ev
  refine ⟨rfl, CallP.by (p_terms T) (by decide) ⟨m, N, rfl, by omega, hN, by omega, ?_⟩⟩
  refine ⟨(by decide : 2 ≤ sizeLine), fun s hs => ?_⟩
  dsimp only [gName]
  refine ⟨(by decide : 0 ≤ sizeLine), fun q hq => ?_⟩
  dsimp only [gName]
  have nqs : q ≠ s := fun e => by rw [e, upd_same] at hq; cases hq
  have hq0 : H q = none := by rw [upd_ne nqs] at hq; exact hq
  have k0 : Gr H (upd (upd H s (.tup [.str "", .int 0])) q (.lst [])) := (Gr.new hs).trans (Gr.new hq)
  have e0 : upd (upd H s (.tup [.str "", .int 0])) q (.lst []) q = some (.lst (([] : List Str).map V.str)) := upd_same
  have s0 : upd (upd H s (.tup [.str "", .int 0])) q (.lst []) s = some (.tup [.str ((("" : Str), 0) : Sd).1, nat ((("" : Str), 0) : Sd).2]) := by
    rw [upd_ne (Ne.symm nqs), upd_same]
    rfl
  revert k0 e0 s0
  generalize upd (upd H s (.tup [.str "", .int 0])) q (.lst []) = H0
  intro k0 e0 s0
  obtain ⟨w0, c0⟩ := pok_nil (m := m) (N := N) (by omega) m2 (by omega)
  have l1 := bo.l1
  have l12 := bo.l2
  refine SeqP.l rfl (.of (k0 _ _ hmp)) ?_
  refine for_list (xs := mvs.map mvV ++ tl) (fun i σ H' => i ≤ mvs.length ∧ Gr H H' ∧ ∃ (s : Addr) (sd : Sd) (ws : List Str) (o1 : Option V), GdS m N bs.length sd ∧ MvsOk N (dep sd.1).length (mvs.drop i) ∧ ws.length = i ∧ plG c m bs.length ("", 0) mvs = ws ++ plG c m bs.length sd (mvs.drop i) ∧ H' q = some (.lst (ws.map V.str)) ∧ s ≠ q ∧ H' s = some (.tup [.str sd.1, nat sd.2]) ∧ σ = [some (.ref k), some (.ref mp), some (nat m), some (nat N), some (.ref r), some (.ref s), some (.ref q), o1])
    ⟨Nat.zero_le _, k0, s, ("", 0), [], none, ⟨w0, l1⟩, by rw [c0]; exact mo, rfl, rfl, e0, Ne.symm nqs, s0, rfl⟩ (fun i σ H' _ q => .of (q.2.1 _ _ hmp)) ?_ ?_
  · rintro i x σ H1 hx ⟨hi0, k1, s, sd, ws, o1, gd, mo1, lw, eW, e1, nsq, es, rfl⟩
    have hi : i < mvs.length := by
      by_cases e : i < mvs.length
      · exact e
      · exfalso
        have e : i = mvs.length := by omega
        subst e
        rw [List.drop_length] at eW
        have e3 : (plG c m bs.length ("", 0) mvs).length = mvs.length := by rw [eW]; show (ws ++ []).length = _; rw [List.append_nil, lw]
        rcases htl with e2 | e2
        · subst e2
          rw [List.append_nil, List.getElem?_map, List.getElem?_eq_none (Nat.le_refl _)] at hx
          cases hx
        · omega
    have hx2 : x = mvV mvs[i] := by
      rw [List.getElem?_append_left (by rw [List.length_map]; exact hi), List.getElem?_map, List.getElem?_eq_getElem hi] at hx
      exact (Option.some.inj hx).symm
    subst hx2
    rw [List.drop_eq_getElem_cons hi] at mo1 eW
    obtain ⟨mv, hmv⟩ : ∃ mv, mvs[i] = mv := ⟨_, rfl⟩
    rw [hmv] at mo1 eW
    rw [hmv]
    rw [plG_cons] at eW
    have wz := gd.w.le
    have wo := gd.w.ones
    dsimp only [gName]
    refine IxR'.t (xs := [.str sd.1, nat sd.2]) (.of es) (v := .str sd.1) rfl ?_
    refine CallP.by (p_pm2 (N := N) T) (by decide) ⟨sd.1, rfl, gd.w.ok, by omega, by omega, fun q2 H2 k2 hq2 => ?_⟩
    refine InR.sq _ (.inl (.of hq2)) (flat_mv mv) (List.all_eq_true.mpr fun v hv => by obtain ⟨x, _, rfl⟩ := List.mem_map.mp hv; exact flat_mv x) ?_
    have hin : inV (mvV mv) ((mvL N sd.1).map mvV) = true := in_of (List.mem_map_of_mem (mem_mvL.mpr mo1.1.ok)) (by cases mv with | new => rfl | old a => exact eqV_nat a)
    rw [hin]
    refine ite_i (fun c => Bool.noConfusion c) (fun _ => ?_)
    dsimp only [tNext]
    have k12 := k1.trans k2
    refine CallP.by (p_aft2 T hlv F) (by decide) ⟨k, s, r, sd, mv, rfl, F.gr k12 hk, k2 _ _ es, gd, nm, mo1.1.ok, hr.gr k12, l12, fun e H3 k3 => ?_, fun s' e p H3 k3 hp0 hp => ?_⟩
    · refine h q H3 (k12.trans k3) hq0 ?_
      rw [k3 _ _ (k2 _ _ e1), eW, e]
      show _ = some (HO.lst ((ws ++ []).map V.str))
      rw [List.append_nil]
    · have e3 := k3 _ _ (k2 _ _ e1)
      obtain ⟨g', l'⟩ := nxS_gd F.le nm (by omega) gd mo1.1.ok e
      have npq : p ≠ q := fun z => by rw [z, k2 _ _ e1] at hp0; cases hp0
      refine IsLst.by rfl (.of e3) ?_
      refine IxR'.t (.of hp) (v := .str s'.1) rfl ?_
      refine AppP.by e3 (by rw [List.length_map, sizeLine_eq]; omega) ?_
      refine ⟨hi, gr_upd (k12.trans k3) hq0, p, s', ws ++ [s'.1], some (mvV mv), g', by rw [l']; exact mo1.2, by rw [List.length_append, lw]; rfl, ?_, by rw [List.map_append]; exact upd_same, npq, ?_, rfl⟩
      · rw [e] at eW
        rw [eW, List.append_assoc]; rfl
      · rw [upd_ne npq, hp]
  · rintro σ H1 ⟨hi0, k1, s, sd, ws, o1, gd, mo1, lw, eW, e1, nsq, es, rfl⟩
    rw [List.length_append, List.length_map] at hi0
    have e4 : (mvs.map mvV ++ tl).length = mvs.length := by rw [List.length_append, List.length_map]; omega
    rw [e4, List.drop_length] at eW
    refine h q H1 k1 hq0 ?_
    rw [e1, eW]
    show _ = some (HO.lst ((ws ++ []).map V.str))
    rw [List.append_nil]
end
end Lw
-- of law_k56_whole_lazy_edge
namespace Lw
open PySem PySem.Spec PyProof.Rows L2 Cy Tx
def keyS (s : Sd) : List Key := [.inr s.1, .inl (s.2 : Int)]
theorem keyS_inj {s t : Sd} (e : keyS s = keyS t) : s = t := by
  unfold keyS at e
  simp only [List.cons.injEq, Sum.inr.injEq, Sum.inl.injEq, and_true] at e
  exact Prod.ext e.1 (by omega)
def OrV (H : Hp) (ps : List Addr) : Option (Nat × Mv) → V → Prop
  | none, v => v = .non
  | some (j, mv), v => ∃ t p, v = .ref t ∧ ps[j]? = some p ∧ H t = some (.tup [.ref p, mvV mv])
structure Cor (H : Hp) (od qa : Addr) (b : Bf) (ps : List Addr) (kvs : List (List Key × V)) : Prop where
  d : H od = some (.dT kvs)
  q : H qa = some (.lst (ps.map V.ref))
  len : ps.length = b.qs.length
  kl : kvs.map (·.1) = b.qs.map keyS
  tup : ∀ (i : Nat) (s : Sd) (p : Addr), b.qs[i]? = some s → ps[i]? = some p → H p = some (.tup [.str s.1, nat s.2])
  val : ∀ (i : Nat) (s : Sd) (o : Option (Nat × Mv)), b.qs[i]? = some s → b.os[i]? = some o → ∃ v, valV kvs (keyS s) = some v ∧ OrV H ps o v
theorem OrV.gr {H H' : Hp} {ps : List Addr} {o : Option (Nat × Mv)} {v : V} (k : ∀ t xs, H t = some (.tup xs) → H' t = some (.tup xs)) (h : OrV H ps o v) : OrV H' ps o v := by
  match o, h with
  | none, h => exact h
  | some (j, mv), ⟨t, p, e1, e2, e3⟩ => exact ⟨t, p, e1, e2, k _ _ e3⟩
theorem OrV.more {H : Hp} {ps : List Addr} {p : Addr} {o : Option (Nat × Mv)} {v : V} (h : OrV H ps o v) : OrV H (ps ++ [p]) o v := by
  match o, h with
  | none, h => exact h
  | some (j, mv), ⟨t, q, e1, e2, e3⟩ => exact ⟨t, q, e1, get_old e2, e3⟩
theorem Cor.gr {H H' : Hp} {od qa : Addr} {b : Bf} {ps : List Addr} {kvs : List (List Key × V)} (k : Gr H H') (h : Cor H od qa b ps kvs) : Cor H' od qa b ps kvs :=
  ⟨k _ _ h.d, k _ _ h.q, h.len, h.kl, fun i s p e1 e2 => k _ _ (h.tup i s p e1 e2), fun i s o e1 e2 => by
    obtain ⟨v, a1, a2⟩ := h.val i s o e1 e2
    exact ⟨v, a1, a2.gr fun t xs e => k _ _ e⟩⟩
theorem Cor.st {H : Hp} {od qa : Addr} {b : Bf} {ps : List Addr} {kvs : List (List Key × V)} {x : Option (Nat × Mv)} (h : Cor H od qa b ps kvs) : Cor H od qa ⟨b.qs, b.os, x⟩ ps kvs := ⟨h.d, h.q, h.len, h.kl, h.tup, h.val⟩
theorem val_in {kvs : List (List Key × V)} {k : List Key} : (valV kvs k).isSome = true ↔ k ∈ kvs.map (·.1) := by
  rw [← valV_any]
  rw [List.any_eq_true]
  constructor
  · rintro ⟨x, hx, e⟩
    exact List.mem_map.mpr ⟨x, hx, of_decide_eq_true e⟩
  · intro h
    obtain ⟨x, hx, e⟩ := List.mem_map.mp h
    exact ⟨x, hx, decide_eq_true e⟩
theorem Cor.mem {H : Hp} {od qa : Addr} {b : Bf} {ps : List Addr} {kvs : List (List Key × V)} (h : Cor H od qa b ps kvs) (s : Sd) : (valV kvs (keyS s)).isSome = true ↔ s ∈ b.qs := by
  rw [val_in, h.kl]
  constructor
  · intro q
    obtain ⟨t, ht, e⟩ := List.mem_map.mp q
    rw [← keyS_inj e]; exact ht
  · exact fun q => List.mem_map_of_mem q
/-- one more standing -/
theorem Cor.add {H : Hp} {od qa t p' : Addr} {b : Bf} {ps : List Addr} {kvs : List (List Key × V)} {s' : Sd} {n : Nat} {mv : Mv} {p : Addr} (h : Cor H od qa b ps kvs) (nq : od ≠ qa) (ln : b.os.length = b.qs.length) (hp : H p' = some (.tup [.str s'.1, nat s'.2])) (ht : H t = some (.tup [.ref p, mvV mv])) (hn : ps[n]? = some p) (no : s' ∉ b.qs) :
    Cor (upd (upd H od (.dT (putK kvs (keyS s') (.ref t)))) qa (.lst (ps.map V.ref ++ [.ref p']))) od qa ⟨b.qs ++ [s'], b.os ++ [some (n, mv)], b.st⟩ (ps ++ [p']) (putK kvs (keyS s') (.ref t)) := by
  have vn : valV kvs (keyS s') = none := by
    cases e : valV kvs (keyS s') with
    | none => rfl
    | some v => exact absurd ((h.mem s').mp (by rw [e]; rfl)) no
  have kk : ∀ a xs, H a = some (.tup xs) → (upd (upd H od (.dT (putK kvs (keyS s') (.ref t)))) qa (.lst (ps.map V.ref ++ [.ref p']))) a = some (.tup xs) := fun a xs e => by
    rw [upd_ne (fun z => by rw [z, h.q] at e; cases e), upd_ne (fun z => by rw [z, h.d] at e; cases e)]
    exact e
  refine ⟨by rw [upd_ne nq, upd_same], by rw [upd_same, List.map_append]; rfl, by show _ = (b.qs ++ [s']).length; rw [List.length_append, List.length_append, h.len]; rfl, ?_, fun i s q e1 e2 => ?_, fun i s o e1 e2 => ?_⟩
  · rw [putK_new _ vn, List.map_append, h.kl, List.map_append]; rfl
  · rcases get_app e1 with ⟨e1, l1⟩ | ⟨i1, rfl⟩
    · rcases get_app e2 with ⟨e2, l2⟩ | ⟨i2, _⟩
      · exact kk _ _ (h.tup i s q e1 e2)
      · rw [i2, h.len] at l1; omega
    · rcases get_app e2 with ⟨e2, l2⟩ | ⟨i2, rfl⟩
      · rw [i1, h.len] at l2; omega
      · exact kk _ _ hp
  · rcases get_app e1 with ⟨e1, l1⟩ | ⟨i1, rfl⟩
    · rcases get_app e2 with ⟨e2, l2⟩ | ⟨i2, _⟩
      · obtain ⟨v, a1, a2⟩ := h.val i s o e1 e2
        refine ⟨v, ?_, (a2.gr kk).more⟩
        rw [valV_put, if_neg (fun z => no ?_)]
        · exact a1
        · rw [← keyS_inj z]; exact List.mem_of_getElem? e1
      · rw [i2, ln] at l1; omega
    · rcases get_app e2 with ⟨e2, l2⟩ | ⟨i2, rfl⟩
      · rw [i1, ln] at l2; omega
      · exact ⟨.ref t, by rw [valV_put, if_pos rfl], t, p, rfl, get_old hn, kk _ _ ht⟩
section
variable {g : Wd} {j : Nat} {H : Hp} {lv : Nat} {KP : Addr → Hp → Prop} {c : Str → Nat → Nat} {m N : Nat} {bs : List Int}
def spSrch (g : Wd) (KP : Addr → Hp → Prop) (c : Str → Nat → Nat) (m N : Nat) (bs : List Int) : Sp := fun vs H Q _ => ∃ (k r : Addr) (wh : Bool), vs = [.ref k, nat m, nat N, .ref r, .bl wh] ∧ KP k H ∧ RoundAt g H r bs ∧
  ∀ (pr od qa : Addr) (n : Nat) (ps : List Addr) (kvs : List (List Key × V)) (sv : V) H', Gr H H' → Cor H' od qa (runB c N m bs.length n) ps kvs → OrV H' ps (runB c N m bs.length n).st sv → ((runB c N m bs.length n).qs.length ≤ n ∨ (wh = false ∧ (runB c N m bs.length n).st ≠ none)) → H od = none → H' pr = some (.tup [.ref od, sv]) → Q (.ref pr) H'
theorem cut_test {t : TT} {σ : L2.St} {H : Hp} {K : Bool → Hp → Prop} (post : Bool → Hp → Prop) (h1 : ∀ K : Bool → Hp → Prop, (∀ b H2, post b H2 → K b H2) → t σ H K) (h2 : ∀ b H2, post b H2 → K b H2) : t σ H K := h1 K h2
def SrW (c : Str → Nat → Nat) (bs : List Int) (H : Hp) (k r s0 od qa : Addr) (m N : Nat) (wh : Bool) (x : Nat) (σ : L2.St) (H' : Hp) : Prop := ∃ (n : Nat) (ps : List Addr) (kvs : List (List Key × V)) (sv : V) (o1 o2 o3 : Option V), x = 2 ^ (m + 1) * bs.length + 1 - n ∧ Gr H H' ∧ Cor H' od qa (runB c N m bs.length n) ps kvs ∧ OrV H' ps (runB c N m bs.length n).st sv ∧ n ≤ (runB c N m bs.length n).qs.length ∧
  σ = [some (.ref k), some (nat m), some (nat N), some (.ref r), some (.bl wh), some (.ref s0), some (.ref od), some (.ref qa), some sv, some (nat n), o1, o2, o3]
theorem mv_ne_ref {l : List Mv} {ps : List Addr} {a b : Addr} (h1 : H a = some (.lst (l.map mvV))) (h2 : H b = some (.lst (ps.map V.ref))) (hp : 0 < ps.length) : a ≠ b := fun e => by
  rw [e, h2] at h1
  cases ps with
  | nil => cases hp
  | cons p ps =>
    cases l with
    | nil => cases h1
    | cons x l => cases x <;> cases h1
theorem ok_srch (T : Top g) (hlv : lv ≤ 20) (F : Kf g lv KP c m N bs) (l1 : 1 ≤ bs.length) (l12 : bs.length ≤ 12) (n1 : 1 ≤ N) (nm : N ≤ m) (m8 : m ≤ 8) {fd : FuncData} (D : FunD g.K "_search" "_search" (defArgs (top 27)) (defBody (top 27)) (defScope (top 27)) [] [] (gad g.K "_search") fd) :
    FnOk g.P g.w g.K g.mg g.base (L2.CX g.P g.w) 24 (gad g.K "_search") fd ["keeper", "places", "limit", "budgets", "whole"] (spSrch g KP c m N bs) := ok__search T D (j := 22) fun vs H Q E ⟨k, r, wh, ev, hk, hr, h⟩ => by
  subst ev
  refine ⟨rfl, (by decide : 2 ≤ sizeLine), fun s0 hs0 => ?_⟩
  dsimp only [gName]
  intro od hod
  dsimp only [gName]
  refine DpP.by rfl (DPut.t upd_same (k := keyS ("", 0)) ((Gr.new hod) _ _ upd_same) (by rw [sizeLine_eq]; decide)) ?_
  refine ⟨(by decide : 1 ≤ sizeLine), fun qa hqa => ?_⟩
  dsimp only [gName]
  have nos : od ≠ s0 := fun e => by rw [e, upd_same] at hod; cases hod
  have hod0 : H od = none := by rw [upd_ne nos] at hod; exact hod
  have nqo : qa ≠ od := fun e => by rw [e, upd_same] at hqa; cases hqa
  have nqs : qa ≠ s0 := fun e => by rw [e, upd_ne (Ne.symm nos), upd_ne (Ne.symm nos), upd_same] at hqa; cases hqa
  have hqa0 : H qa = none := by rw [upd_ne nqo, upd_ne nqo, upd_ne nqs] at hqa; exact hqa
  have k0 : Gr H (upd (upd (upd (upd H s0 (.tup [.str "", .int 0])) od (.dT [])) od (.dT (putK [] (keyS ("", 0)) .non))) qa (.lst [.ref s0])) := gr_upd (gr_upd (gr_upd (Gr.new hs0) hod0) hod0) hqa0
  have cor0 : Cor (upd (upd (upd (upd H s0 (.tup [.str "", .int 0])) od (.dT [])) od (.dT (putK [] (keyS ("", 0)) .non))) qa (.lst [.ref s0])) od qa (runB c N m bs.length 0) [s0] (putK [] (keyS ("", 0)) .non) := by
    refine ⟨by rw [upd_ne (Ne.symm nqo), upd_same], upd_same, rfl, rfl, fun i s p e1 e2 => ?_, fun i s o e1 e2 => ?_⟩
    · cases i with
      | zero =>
        cases e1
        cases e2
        rw [upd_ne (Ne.symm nqs), upd_ne (Ne.symm nos), upd_ne (Ne.symm nos), upd_same]
        rfl
      | succ i => cases e1
    · cases i with
      | zero =>
        cases e1
        cases e2
        exact ⟨.non, rfl, rfl⟩
      | succ i => cases e1
  revert k0 cor0
  generalize upd (upd (upd (upd H s0 (.tup [.str "", .int 0])) od (.dT [])) od (.dT (putK [] (keyS ("", 0)) .non))) qa (.lst [.ref s0]) = H0
  intro k0 cor0
  refine seq_cutR (fun σ' H' => H' = H0 ∧ σ' = [some (.ref k), some (nat m), some (nat N), some (.ref r), some (.bl wh), some (.ref s0), some (.ref od), some (.ref qa), some .non, none, none, none, none]) (fun N' hN => hN _ _ ⟨rfl, rfl⟩) ?_
  rintro σ' H0 ⟨rfl, rfl⟩
  refine seq_cutR (fun σ' H' => SrW c bs H k r s0 od qa m N wh (2 ^ (m + 1) * bs.length + 1) σ' H') (fun N' hN => ?_) ?_
  · exact hN _ _ ⟨0, [s0], _, .non, none, none, none, rfl, k0, cor0, rfl, Nat.zero_le _, rfl⟩
  rintro σ' H1 w1
  refine seq_cutR (fun σ' H' => ∃ (n : Nat) (ps : List Addr) (kvs : List (List Key × V)) (sv : V) (o0 o1 o2 o3 : Option V), Gr H H' ∧ Cor H' od qa (runB c N m bs.length n) ps kvs ∧ OrV H' ps (runB c N m bs.length n).st sv ∧ ((runB c N m bs.length n).qs.length ≤ n ∨ (wh = false ∧ (runB c N m bs.length n).st ≠ none)) ∧
    σ' = [some (.ref k), some (nat m), some (nat N), some (.ref r), some (.bl wh), some (.ref s0), some (.ref od), some (.ref qa), some sv, o0, o1, o2, o3]) (fun N' hN => ?_) ?_
  · refine ⟨SrW c bs H k r s0 od qa m N wh, ⟨_, w1⟩, ?_⟩
    rintro x σ H2 ⟨n, ps, kvs, sv, o1, o2, o3, ex, k2, cor, ov, nl, rfl⟩
    have bi := run_bi F.le nm l1 n1 (by omega) (c := c) n
    have few := few_states bi.nd bi.gd
    have hB : 2 ^ (m + 1) * bs.length ≤ 6144 := Nat.le_trans (Nat.mul_le_mul (Nat.pow_le_pow_right (by decide) (by omega : m + 1 ≤ 9)) l12) (by decide)
    refine cut_test (fun b H' => H' = H2 ∧ (b = true → n < (runB c N m bs.length n).qs.length) ∧ (b = false → ((runB c N m bs.length n).qs.length ≤ n ∨ (wh = false ∧ (runB c N m bs.length n).st ≠ none)))) (fun K hK => ?_) ?_
    · refine LenP.l (.of cor.q) ?_
      rw [List.length_map, cor.len]
      refine ite_i (fun q1 => ?_) (fun q1 => hK _ _ ⟨rfl, fun e => Bool.noConfusion e, fun _ => .inl (by have := of_decide_eq_false q1; omega)⟩)
      have hn : n < (runB c N m bs.length n).qs.length := by have := of_decide_eq_true q1; omega
      cases wh with
      | true => exact hK _ _ ⟨rfl, fun _ => hn, fun e => Bool.noConfusion e⟩
      | false =>
        cases est : (runB c N m bs.length n).st with
        | none =>
          rw [est] at ov
          have ov : sv = .non := ov
          subst ov
          exact hK _ _ ⟨rfl, fun _ => hn, fun e => Bool.noConfusion e⟩
        | some x =>
          rw [est] at ov
          obtain ⟨t, p, e1, _⟩ := ov
          subst e1
          exact hK _ _ ⟨rfl, fun e => Bool.noConfusion e, fun _ => .inr ⟨rfl, by rw [est]; exact fun e => by cases e⟩⟩
    rintro b H' ⟨rfl, t1, t2⟩
    refine ite_i (fun e => ?_) (fun e => hN _ _ ⟨n, ps, kvs, sv, _, _, _, _, k2, cor, ov, t2 e, rfl⟩)
    have hn := t1 e
    clear t1 t2 e
    obtain ⟨st, hst⟩ : ∃ s, (runB c N m bs.length n).qs[n]? = some s := ⟨_, List.getElem?_eq_getElem hn⟩
    obtain ⟨pn, hpn⟩ : ∃ p, ps[n]? = some p := ⟨_, List.getElem?_eq_getElem (by rw [cor.len]; exact hn)⟩
    have htup := cor.tup n st pn hst hpn
    have gd := bi.gd st (List.mem_of_getElem? hst)
    refine ⟨SrW c bs H k r s0 od qa m N wh (2 ^ (m + 1) * bs.length + 1 - (n + 1)), fun σ' H' w => ⟨_, by omega, w⟩, ?_⟩
    refine IxR'.l (.of cor.q) (v := .ref pn) (at_of (j := n) rfl (by rw [List.getElem?_map, hpn]; rfl)) ?_
    refine ⟨_, rfl, _, _, rfl, rfl, ?_⟩
    dsimp only [gName]
    refine IxR'.t (xs := [.str st.1, nat st.2]) (.of htup) (v := .str st.1) rfl ?_
    refine CallP.by (p_pm2 (N := N) T) (by decide) ⟨st.1, rfl, gd.w.ok, by have := gd.w.le; omega, by have := gd.w.ones; omega, fun q2 H3 k3 hq2 => ?_⟩
    refine SeqP.l rfl (.of hq2) ?_
    have nq2 : q2 ≠ qa := mv_ne_ref hq2 (k3 _ _ cor.q) (by rw [cor.len]; omega)
    have no2 : q2 ≠ od := fun e => by rw [e, k3 _ _ cor.d] at hq2; cases hq2
    refine for_list (xs := (mvL N st.1).map mvV) (fun i σ H' => ∃ (ps : List Addr) (kvs : List (List Key × V)) (sv : V) (o2 o3 : Option V), Gr H H' ∧ H' q2 = some (.lst ((mvL N st.1).map mvV)) ∧ ps[n]? = some pn ∧ Cor H' od qa (((mvL N st.1).take i).foldl (tryM c m bs.length n st) (runB c N m bs.length n)) ps kvs ∧ OrV H' ps (((mvL N st.1).take i).foldl (tryM c m bs.length n st) (runB c N m bs.length n)).st sv ∧
      σ = [some (.ref k), some (nat m), some (nat N), some (.ref r), some (.bl wh), some (.ref s0), some (.ref od), some (.ref qa), some sv, some (.int ((n : Nat) + 1)), some (.ref pn), o2, o3])
      ⟨ps, kvs, sv, o2, o3, k2.trans k3, hq2, hpn, cor.gr k3, ov.gr fun t xs e => k3 _ _ e, rfl⟩ (fun i σ H' _ q => by obtain ⟨_, _, _, _, _, _, a2, _⟩ := q; exact .of a2) ?_ ?_
    · rintro i x σ H4 hx ⟨ps, kvs, sv, o2, o3, k4, hq4, hpn, cor, ov, rfl⟩
      have hi : i < (mvL N st.1).length := by
        have := (List.getElem?_eq_some_iff.mp hx).1
        rw [List.length_map] at this
        exact this
      rw [List.getElem?_map, List.getElem?_eq_getElem hi] at hx
      have hx := (Option.some.inj hx).symm
      subst hx
      have hmem : (mvL N st.1)[i] ∈ mvL N st.1 := List.getElem_mem hi
      have htk : (mvL N st.1).take (i + 1) = (mvL N st.1).take i ++ [(mvL N st.1)[i]] := by rw [List.take_succ, List.getElem?_eq_getElem hi]; rfl
      rw [htk, List.foldl_append]
      have bi2 := BI.fold F.le nm l1 (r := (mvL N st.1).take i) bi hst (fun mv hm => mem_mvL.mp (List.mem_of_mem_take hm))
      have hst2 : (((mvL N st.1).take i).foldl (tryM c m bs.length n st) (runB c N m bs.length n)).qs[n]? = some st := fold_get hst
      have few2 := few_states bi2.nd bi2.gd
      have ln2 := bi2.len
      generalize (mvL N st.1)[i] = mv at *
      generalize ((mvL N st.1).take i).foldl (tryM c m bs.length n st) (runB c N m bs.length n) = b at *
      have hm := mem_mvL.mp hmem
      have htup := cor.tup n st pn hst2 hpn
      dsimp only [gName]
      refine CallP.by (p_aft2 T hlv F) (by decide) ⟨k, pn, r, st, mv, rfl, F.gr k4 hk, htup, gd, nm, hm, hr.gr k4, l12, fun e H5 k5 => ?_, fun s' e p' H5 k5 hp0 hp => ?_⟩
      · have e1 : [mv].foldl (tryM c m bs.length n st) b = ⟨b.qs, b.os, match b.st with | none => some (n, mv) | some x => some x⟩ := by
          show tryM c m bs.length n st b mv = _
          unfold tryM
          rw [e] <;> rfl
        rw [e1]
        cases est : b.st with
        | none =>
          rw [est] at ov
          have ov : sv = .non := ov
          subst ov
          refine ⟨(by decide : 2 ≤ sizeLine), fun t ht => ?_⟩
          have kt := k5.trans (Gr.new (o := .tup [.ref pn, mvV mv]) ht)
          exact ⟨ps, kvs, .ref t, _, _, k4.trans kt, kt _ _ hq4, hpn, (cor.gr kt).st, ⟨t, pn, rfl, hpn, upd_same⟩, rfl⟩
        | some x =>
          rw [est] at ov
          have ov2 := ov
          obtain ⟨t, p, e2, _⟩ := ov2
          subst e2
          exact ⟨ps, kvs, .ref t, _, _, k4.trans k5, k5 _ _ hq4, hpn, (cor.gr k5).st, ov.gr fun t xs e => k5 _ _ e, rfl⟩
      · have cor5 := cor.gr k5
        have ov5 : OrV H5 ps b.st sv := ov.gr fun t xs e => k5 _ _ e
        refine DiP.by rfl (DGet.t cor5.d (k := keyS s') hp) ?_
        by_cases q : s' ∈ b.qs
        · have e1 : [mv].foldl (tryM c m bs.length n st) b = b := by
            show tryM c m bs.length n st b mv = _
            unfold tryM
            rw [e]
            exact if_pos q
          rw [e1, (cor5.mem s').mpr q]
          exact ⟨ps, kvs, sv, _, _, k4.trans k5, k5 _ _ hq4, hpn, cor5, ov5, rfl⟩
        · have e1 : [mv].foldl (tryM c m bs.length n st) b = ⟨b.qs ++ [s'], b.os ++ [some (n, mv)], b.st⟩ := by
            show tryM c m bs.length n st b mv = _
            unfold tryM
            rw [e]
            exact if_neg q
          have e2 : (valV kvs (keyS s')).isSome = false := by
            cases z : (valV kvs (keyS s')).isSome with
            | false => rfl
            | true => exact absurd ((cor5.mem s').mp z) q
          rw [e1, e2]
          refine ⟨(by decide : 2 ≤ sizeLine), fun t ht => ?_⟩
          have kt : Gr H5 (upd H5 t (.tup [.ref pn, mvV mv])) := Gr.new ht
          have kvl : kvs.length = b.qs.length := by have := congrArg List.length cor5.kl; rw [List.length_map, List.length_map] at this; exact this
          refine DpP.by rfl (DPut.t (kt _ _ cor5.d) (k := keyS s') (kt _ _ hp) (by rw [sizeLine_eq]; omega)) ?_
          have eq6 : upd (upd H5 t (.tup [.ref pn, mvV mv])) od (.dT (putK kvs (keyS s') (.ref t))) qa = some (.lst (ps.map V.ref)) := by rw [upd_ne nqo]; exact kt _ _ cor5.q
          refine IsLst.by rfl (.of eq6) ?_
          refine AppP.by eq6 (by rw [List.length_map, cor5.len, sizeLine_eq]; omega) ?_
          have cor6 := (cor5.gr kt).add (n := n) (mv := mv) (p := pn) (Ne.symm nqo) ln2 (kt _ _ hp) upd_same hpn q
          have k6 : Gr H (upd (upd (upd H5 t (.tup [.ref pn, mvV mv])) od (.dT (putK kvs (keyS s') (.ref t)))) qa (.lst (ps.map V.ref ++ [.ref p']))) := gr_upd (gr_upd ((k4.trans k5).trans kt) hod0) hqa0
          refine ⟨_, _, sv, _, _, k6, ?_, get_old hpn, cor6, (ov5.gr fun a xs ea => ?_).more, rfl⟩
          · rw [upd_ne nq2, upd_ne no2]
            exact kt _ _ (k5 _ _ hq4)
          · rw [upd_ne (fun z => by rw [z, cor5.q] at ea; cases ea), upd_ne (fun z => by rw [z, cor5.d] at ea; cases ea)]
            exact kt _ _ ea
    · rintro σ H4 ⟨ps, kvs, sv, o2, o3, k4, hq4, hpn, cor, ov, rfl⟩
      rw [List.length_map, List.take_length] at cor ov
      have et : runB c N m bs.length (n + 1) = (mvL N st.1).foldl (tryM c m bs.length n st) (runB c N m bs.length n) := by
        show turn c N m bs.length n (runB c N m bs.length n) = _
        unfold turn
        rw [hst]
      refine ⟨n + 1, ps, kvs, sv, some (.ref pn), o2, o3, by omega, k4, by rw [et]; exact cor, by rw [et]; exact ov, ?_, rfl⟩
      rw [et, ← cor.len]
      have := (List.getElem?_eq_some_iff.mp hpn).1
      omega
  · rintro σ' H2 ⟨n, ps, kvs, sv, o0, o1, o2, o3, k2, cor, ov, fin, rfl⟩
    refine ⟨(by decide : 2 ≤ sizeLine), fun pr hpr => ?_⟩
    exact h pr od qa n ps kvs sv _ (k2.trans (Gr.new hpr)) (cor.gr (Gr.new hpr)) (ov.gr fun t xs e => (Gr.new hpr) _ _ e) fin hod0 upd_same
end
end Lw
-- of law_k56_whole_lazy_edge
namespace Lw
open PySem PySem.Spec PyProof.Rows L2 Cy Tx
theorem kbinds00 {K : PySem.W.Frag} {x qual : Str} {params : Arguments} {body : List Stmt} {scope : Scope} {f : Addr} {fd : FuncData} {ps : List Str} (F : FunD K x qual params body scope [] [] f fd) (n : Nat) (ks : List Str)
    (h : ∀ (kV doc pm : Value) (an : Option Addr) (cdv ct : Value) (us ws : List Value), us.length = n → ws.length = ks.length → bindArgs (PySem.W.fnOf x qual params body scope .none kV doc pm an cdv ct) ⟨us, ks.zip ws⟩ = pure (ps.zip (us ++ ws))) :
    KBn K fd ps n ks (fun us ws => us ++ ws) (fun vs zs => vs ++ zs) := by
  obtain ⟨oc, od, dV, kV, doc, pm, an, cdv, ct, osl, rfl, lk, hcd, hD, hK⟩ := F.ex
  rcases hD with ⟨_, rfl⟩ | ⟨e, _⟩
  · exact ⟨fun s us ws X l1 l2 => BindsTo.of_looks fun M => .of_pure (h kV doc pm an cdv ct us ws l1 l2), fun r1 r2 => r1.append r2⟩
  · exact absurd rfl e
section
variable {g : Wd} {j : Nat} {H : Hp} {lv : Nat} {KP : Addr → Hp → Prop} {c : Str → Nat → Nat} {m N : Nat} {bs : List Int}
def spK41 (sp : Sp) : SpK := fun vs zs H Q E => ∃ a b c d e : V, vs = [a, b, c, d] ∧ zs = [e] ∧ sp [a, b, c, d, e] H Q E
theorem k_srch (T : Top g) (hlv : lv ≤ 20) (F : Kf g lv KP c m N bs) (l1 : 1 ≤ bs.length) (l12 : bs.length ≤ 12) (n1 : 1 ≤ N) (nm : N ≤ m) (m8 : m ≤ 8) : FnK g 24 (gad g.K "_search") ["whole"] (spK41 (spSrch g KP c m N bs)) := by
  obtain ⟨fd, D⟩ := fd__search T
  have hb := kbinds00 (ps := ["keeper", "places", "limit", "budgets", "whole"]) D 4 ["whole"] fun kV doc pm an cdv ct us ws h1 h2 => match us, ws, h1, h2 with
    | [_, _, _, _], [_], _, _ => rfl
  intro A outer s H us ws vs zs Q E hr e0 r rz hh
  obtain ⟨a, b, c', d, e, rfl, rfl, hs⟩ := hh
  exact FnK.of (ok_srch T hlv F l1 l12 n1 nm m8 D) hb A outer s H us ws _ _ Q E hr e0 r rz ⟨rfl, rfl, hs⟩
/-- a row that stalls at its last put -/
def Stl (c : Str → Nat → Nat) (m N L : Nat) (row : List Mv) : Prop := ∃ r mv t, row = r ++ [mv] ∧ MvsOk N 0 row ∧ plR c m L ("", 0) r = some t ∧ nxS c m L t mv = none
def spWorst (g : Wd) (KP : Addr → Hp → Prop) (c : Str → Nat → Nat) (m N : Nat) (bs : List Int) : Sp := fun vs H Q _ => ∃ (k r : Addr), vs = [.ref k, nat m, nat N, .ref r] ∧ KP k H ∧ RoundAt g H r bs ∧
  ((∀ row, MvsOk N 0 row → plR c m bs.length ("", 0) row ≠ none) → ∀ H', Gr H H' → Q .non H') ∧
  (∀ (p : Addr) (n f jj : Nat) (mv : Mv) H', (runB c N m bs.length n).st = some (jj, mv) → Stl c m N bs.length (backL (runB c N m bs.length n).os f jj ++ [mv]) → (backL (runB c N m bs.length n).os f jj ++ [mv]).length ≤ 100000 → jj ≤ f → Gr H H' → H' p = some (.lst ((backL (runB c N m bs.length n).os f jj ++ [mv]).map mvV)) → Q (.ref p) H')
theorem back_len {os : List (Option (Nat × Mv))} : ∀ f i, (backL os f i).length ≤ f
  | 0, i => Nat.le_refl _
  | f + 1, i => by
    show (match os[i]? with | some (some (j, mv)) => backL os f j ++ [mv] | _ => []).length ≤ f + 1
    split
    · rw [List.length_append]; have := back_len (os := os) f; rename_i j mv _; have := this j; simp; omega
    · exact Nat.zero_le _
theorem back_more (hc : CLe c m) (nm : N ≤ m) {L n : Nat} {l : List Mv} {b : Bf} (h : BI c N m L n l b) : ∀ (f f' i : Nat), i ≤ f → i ≤ f' → i < b.qs.length → backL b.os f i = backL b.os f' i
  | f, f', 0, _, _, _ => by rw [back_0 h.hd.2, back_0 h.hd.2]
  | 0, _, i + 1, h1, _, _ => by omega
  | _, 0, i + 1, _, h2, _ => by omega
  | f + 1, f' + 1, i + 1, h1, h2, hl => by
    obtain ⟨j, mv, t, a1, a2, a3, a4, a5⟩ := h.fr (i + 1) _ (List.getElem?_eq_getElem hl) (by omega)
    rw [back_at a1, back_at a1, back_more hc nm h f f' j (by omega) (by omega) (by omega)]
theorem p_worst (T : Top g) (hlv : lv ≤ 20) (F : Kf g lv KP c m N bs) (l1 : 1 ≤ bs.length) (l12 : bs.length ≤ 12) (n1 : 1 ≤ N) (nm : N ≤ m) (m8 : m ≤ 8) : FnG g 26 (gad g.K "worst_row") (spWorst g KP c m N bs) := fk_worst_row T 24 fun vs H Q E ⟨k, r, ev, hk, hr, hA, hB⟩ => by
  subst ev
  obtain ⟨w0, c0⟩ := pok_nil (m := m) (N := N) (by omega) (by omega) n1
  refine ⟨rfl, CallP.by (p_terms T) (by decide) ⟨m, N, rfl, by omega, n1, by omega, ?_⟩⟩
  refine CallKP.by (k_srch T hlv F l1 l12 n1 nm m8) (by decide) ⟨_, _, _, _, _, rfl, rfl, k, r, false, rfl, hk, hr, fun pr od qa n ps kvs sv H1 k1 cor ov fin hod hpr => ?_⟩
  have bi := run_bi F.le nm l1 n1 (by omega) (c := c) n
  have few := few_states bi.nd bi.gd
  have hB6 : 2 ^ (m + 1) * bs.length ≤ 6144 := Nat.le_trans (Nat.mul_le_mul (Nat.pow_le_pow_right (by decide) (by omega : m + 1 ≤ 9)) l12) (by decide)
  refine UnpP.t rfl (.of hpr) rfl ?_
  dsimp only [cgCons, cgNil, gName]
  cases est : (runB c N m bs.length n).st with
  | none =>
    rw [est] at ov
    have ov : sv = .non := ov
    subst ov
    have fin : (runB c N m bs.length n).qs.length ≤ n := by
      rcases fin with fin | ⟨_, fin⟩
      · exact fin
      · exact absurd est fin
    exact hA (fun row mo => none_met F.le nm l1 bi fin est row ("", 0) (List.mem_of_getElem? bi.hd.1) (by rw [c0]; exact mo)) _ k1
  | some x =>
    obtain ⟨jj, mv⟩ := x
    rw [est] at ov
    obtain ⟨t, p, e1, e2, e3⟩ := ov
    subst e1
    obtain ⟨st, b1, b2, b3⟩ := bi.stl jj mv est
    have hjl : jj < (runB c N m bs.length n).qs.length := (List.getElem?_eq_some_iff.mp b1).1
    obtain ⟨p1, p2⟩ := back_ok F.le nm l1 bi c0 jj jj st (Nat.le_refl _) b1
    have g0 := bi.gd _ (List.mem_of_getElem? bi.hd.1)
    have cnt := (plR_gd F.le nm l1 g0 (by rw [c0]; exact p2) p1).2
    rw [c0] at cnt
    have row_ok : Stl c m N bs.length (backL (runB c N m bs.length n).os jj jj ++ [mv]) := ⟨_, mv, st, rfl, p2.snoc (by rw [← cnt]; exact MvC.mk b2), p1, b3⟩
    have fin2 := fun p H' => hB p n jj jj mv H' est row_ok (by rw [List.length_append]; have := back_len (os := (runB c N m bs.length n).os) jj jj; simp; omega) (Nat.le_refl _)
    refine UnpP.t rfl (.of e3) rfl ?_
    dsimp only [cgCons, cgNil, gName]
    refine ⟨(by decide : 1 ≤ sizeLine), fun w hw => ?_⟩
    dsimp only [gName]
    have k2 : Gr H1 (upd H1 w (.lst [mvV mv])) := Gr.new hw
    have ew : upd H1 w (.lst [mvV mv]) w = some (.lst (([mv] : List Mv).map mvV)) := upd_same
    revert k2 ew
    generalize upd H1 w (.lst [mvV mv]) = H2
    intro k2 ew
    refine seq_cutR (fun σ' H' => Gr H1 H' ∧ (∃ bw : List Mv, backL (runB c N m bs.length n).os jj jj ++ [mv] = bw.reverse ∧ H' w = some (.lst (bw.map mvV))) ∧ ∃ o1 o2, σ' = [some (.ref k), some (nat m), some (nat N), some (.ref r), some (.ref od), some (.ref t), o1, o2, some (.ref w)]) (fun N' hN => ?_) ?_
    · refine ⟨fun x σ H' => ∃ (p : Addr) (bw : List Mv) (s : Sd) (o2 : Option V), Gr H1 H' ∧ x < (runB c N m bs.length n).qs.length ∧ x ≤ jj ∧ (runB c N m bs.length n).qs[x]? = some s ∧ ps[x]? = some p ∧ backL (runB c N m bs.length n).os jj jj ++ [mv] = backL (runB c N m bs.length n).os x x ++ bw.reverse ∧ bw.length + x ≤ jj + 1 ∧ H' w = some (.lst (bw.map mvV)) ∧
        σ = [some (.ref k), some (nat m), some (nat N), some (.ref r), some (.ref od), some (.ref t), some (.ref p), o2, some (.ref w)], ⟨jj, p, [mv], st, some (mvV mv), k2, hjl, Nat.le_refl _, b1, e2, rfl, by simp; omega, ew, rfl⟩, ?_⟩
      rintro x σ H3 ⟨p, bw, s, o2, k3, hx, hxj, hs, hp, er, lb, ew3, rfl⟩
      obtain ⟨o, ho⟩ : ∃ o, (runB c N m bs.length n).os[x]? = some o := ⟨_, List.getElem?_eq_getElem (by rw [bi.len]; exact hx)⟩
      have cor3 := cor.gr k3
      have htup := cor3.tup x s p hs hp
      obtain ⟨v, hv, ov⟩ := cor3.val x s o hs ho
      refine DgP.by rfl (by rw [← hv]; exact DGet.t cor3.d (k := keyS s) htup) ?_
      cases o with
      | none =>
        have ov : v = .non := ov
        subst ov
        have x0 : x = 0 := by
          cases x with
          | zero => rfl
          | succ x =>
            obtain ⟨j2, mv2, t2, a1, _⟩ := bi.fr (x + 1) s hs (by omega)
            rw [a1] at ho; cases ho
        subst x0
        rw [back_0 ho, List.nil_append] at er
        exact hN _ _ ⟨k3, ⟨bw, er, ew3⟩, _, _, rfl⟩
      | some y =>
        obtain ⟨j2, mv2⟩ := y
        have x0 : x ≠ 0 := fun e => by subst e; rw [bi.hd.2] at ho; cases ho
        obtain ⟨j3, mv3, t3, a1, a2, a3, a4, a5⟩ := bi.fr x s hs x0
        rw [ho] at a1
        cases a1
        have ov2 := ov
        obtain ⟨t4, p4, f1, f2, f3⟩ := ov2
        subst f1
        refine ⟨fun σ' H' => ∃ (p : Addr) (bw : List Mv) (s : Sd) (o2 : Option V), Gr H1 H' ∧ j2 < (runB c N m bs.length n).qs.length ∧ j2 ≤ jj ∧ (runB c N m bs.length n).qs[j2]? = some s ∧ ps[j2]? = some p ∧ backL (runB c N m bs.length n).os jj jj ++ [mv] = backL (runB c N m bs.length n).os j2 j2 ++ bw.reverse ∧ bw.length + j2 ≤ jj + 1 ∧ H' w = some (.lst (bw.map mvV)) ∧
          σ' = [some (.ref k), some (nat m), some (nat N), some (.ref r), some (.ref od), some (.ref t), some (.ref p), o2, some (.ref w)], fun σ' H' q => ⟨j2, a2, q⟩, ?_⟩
        refine DgP.by rfl (by rw [← hv]; exact DGet.t cor3.d (k := keyS s) htup) ?_
        refine UnpP.t rfl (.of f3) rfl ?_
        dsimp only [cgCons, cgNil, gName]
        refine IsLst.by rfl (.of ew3) ?_
        refine AppP.by ew3 (by rw [List.length_map, sizeLine_eq]; omega) ?_
        refine ⟨p4, bw ++ [mv2], t3, _, gr_upd k3 hw, (List.getElem?_eq_some_iff.mp a3).1, by omega, a3, f2, ?_, by rw [List.length_append]; simp; omega, by rw [upd_same, List.map_append]; rfl, rfl⟩
        rw [er, List.reverse_append]
        have e5 : backL (runB c N m bs.length n).os x x = backL (runB c N m bs.length n).os j2 j2 ++ [mv2] := by
          obtain ⟨x', rfl⟩ : ∃ x', x = x' + 1 := ⟨x - 1, by omega⟩
          rw [back_at ho, back_more F.le nm bi x' j2 j2 (by omega) (Nat.le_refl _) (by omega)]
        rw [e5, List.append_assoc]
        rfl
    · rintro σ' H3 ⟨k3, ⟨bw, er, ew3⟩, o1, o2, rfl⟩
      refine RevP.l rfl (.of ew3) fun q hq => ?_
      refine fin2 q _ (k1.trans (k3.trans (Gr.new hq))) ?_
      rw [upd_same, er, List.map_reverse]
end
end Lw
-- of law_k56_whole_lazy_edge
namespace Lw
open PySem PySem.Spec PyProof.Rows L2 Cy Tx
def Wn (bs : List Int) (r N : Nat) : Prop := ∀ f, f < bs.length → (N : Int) - 1 ≤ cumI bs (f : Nat) r
theorem cumI_nn {bs : List Int} (h : ∀ b ∈ bs, 0 ≤ b) (ph : Int) : ∀ c, 0 ≤ cumI bs ph c
  | 0 => by show (0 : Int) ≤ 0; omega
  | c + 1 => by
    have h1 := cumI_nn h ph c
    have h2 := bat_nn h (ph + (c : Nat))
    show 0 ≤ cumI bs ph c + bat bs (ph + (c : Nat))
    omega
theorem Wn.all {bs : List Int} {r N : Nat} (hb : 0 < bs.length) (h : Wn bs r N) (ph : Int) : (N : Int) - 1 ≤ cumI bs ph r := by
  obtain ⟨f, hf, ef⟩ := mod_f hb ph
  rw [← cumI_mod, ef]
  exact h f hf
theorem Wn.mono {bs : List Int} {r r' N : Nat} (bo : ∀ b ∈ bs, 0 ≤ b) (h : Wn bs r N) (k : r ≤ r') : Wn bs r' N := fun f hf => by
  obtain ⟨d, rfl⟩ : ∃ d, r' = r + d := ⟨r' - r, by omega⟩
  rw [cumI_add]
  have h1 := h f hf
  have h2 := cumI_nn bo ((f : Nat) + (r : Nat)) d
  omega
theorem Ok_le : ∀ {D : List Nat}, Lf.Ok D → ∀ {i d : Nat}, D[i]? = some d → d + i ≤ Lf.len D
  | [], _, i, d, e => by cases e
  | d0 :: r, _, 0, d, e => by cases e; exact Nat.le_refl _
  | [d0], _, i + 1, d, e => by cases e
  | d0 :: e0 :: r, h, i + 1, d, e => by
    have := Ok_le (D := e0 :: r) h.2 (i := i) (d := d) e
    have h1 := h.1
    have e1 : Lf.len (e0 :: r) = e0 := rfl
    show d + (i + 1) ≤ d0
    omega
/-- where so much is free, all is safe -/
theorem room_safe {bs : List Int} (bo : ∀ b ∈ bs, 0 ≤ b) (hb : 0 < bs.length) {z : Str} {m N r : Nat} (w : POk z m N) (nm : N ≤ m) (hw : Wn bs r N) (hr : r ≤ m - N) (hl : z.length + r ≤ m) (ph : Int) : cSafe bs z m N ph := fun t => by
  refine Nat.lt_of_not_le fun h => ?_
  rcases (Lf.full_iff (dep_ok z) w.ones w.n1 w.m1 t).mp h with ⟨b1, d, e, b2⟩ | s
  · have h1 := Ok_le (dep_ok z) e
    rw [dep_head w.ok] at h1
    have h2 := Lf.cum_mono (b := bN bs ph) (show r ≤ t by omega)
    have h3 := cum_int bo ph r
    have h4 := hw.all hb ph
    have h5 : Lf.n1 N (dep z) ≤ N - 1 := by unfold Lf.n1; omega
    have := w.n1
    omega
  · obtain ⟨_, s2⟩ := (Lf.Sh_win w.ones nm).mp s
    have e : (fun s => bN bs ph (t - (m - N) + s)) = bN bs (ph + ((t - (m - N) : Nat) : Int)) := bN_shift bs ph _
    rw [e] at s2
    have h3 := cum_int bo (ph + ((t - (m - N) : Nat) : Int)) (m - N)
    have h4 := (hw.mono bo hr).all hb (ph + ((t - (m - N) : Nat) : Int))
    have := w.n1
    omega
def cLz (bs : List Int) (m R : Nat) (z : Str) (ph : Nat) : Nat := if R + z.length < m then 0 else mostN bs z m (ph : Nat)
theorem cLz_le (bs : List Int) (m R : Nat) : CLe (cLz bs m R) m := ⟨fun z ph => by
  unfold cLz
  split
  · exact Nat.zero_le _
  · exact mostN_le ..
, fun z ph e => by
  unfold cLz
  split
  · rfl
  · exact mostN_full e⟩
theorem cSafe_mod {bs : List Int} {z : Str} {m N n : Nat} : cSafe bs z m N ((n % bs.length : Nat) : Int) ↔ cSafe bs z m N (n : Nat) := by
  unfold cSafe
  rw [Int.natCast_emod, bN_mod]
/-- with a mark that is enough each put is completed, and safe again -/
theorem lz_put {bs : List Int} (bo : ∀ b ∈ bs, 0 ≤ b) (hb : 0 < bs.length) {s : Sd} {m N r R : Nat} {mv : Mv} (g : GdS m N bs.length s) (nm : N ≤ m) (hm : MvOk s.1 N mv) (hw : Wn bs r N) (hr : r ≤ m - N) (hR : r ≤ R) (sf : cSafe bs s.1 m N (s.2 : Nat)) :
    ∃ s', nxS (cLz bs m R) m bs.length s mv = some s' ∧ cSafe bs s'.1 m N (s'.2 : Nat) := by
  obtain ⟨w2, mo⟩ := mv_word g.w nm hm
  obtain ⟨p1, p2⟩ := Lf.Safe.put g.w.m1 g.w.n1 (dep_ok s.1) g.w.ones mo sf
  rw [dep_head w2.ok] at p1
  have e : nxS (cLz bs m R) m bs.length s mv = some (nxt (mvW s.1 mv) (cLz bs m R (mvW s.1 mv) s.2), (s.2 + 1) % bs.length) := if_neg (by omega)
  refine ⟨_, e, ?_⟩
  obtain ⟨g', _⟩ := nxS_gd (cLz_le bs m R) nm hb g hm e
  rw [cSafe_mod]
  unfold cLz
  split
  · rename_i q
    refine room_safe bo hb (by have := g'.w; unfold cLz at this; rw [if_pos q] at this; exact this) nm hw hr ?_ _
    have hk := ne_of_ones (z := mvW s.1 mv) (k := 0) (.inr (Nat.zero_le _))
    have := (nxt_len w2 hk p1).2.1
    show (nxt (mvW s.1 mv) 0).length + r ≤ m
    omega
  · have hk := ne_of_ones (z := mvW s.1 mv) (k := mostN bs (mvW s.1 mv) m (s.2 : Nat)) (.inr (mostN_le ..))
    obtain ⟨_, _, b3, _⟩ := nxt_len w2 hk p1
    unfold cSafe
    rw [b3, mostN_b (by omega)]
    have e2 := bN_shift bs (s.2 : Nat) 1
    rw [e2] at p2
    have e3 : ((s.2 + 1 : Nat) : Int) = ((s.2 : Nat) : Int) + ((1 : Nat) : Int) := by omega
    show Lf.Safe (bN bs ((s.2 + 1 : Nat) : Int)) N _ m
    rw [e3]
    exact p2
theorem lz_never {bs : List Int} (bo : ∀ b ∈ bs, 0 ≤ b) (hb : 0 < bs.length) {m N r R : Nat} (nm : N ≤ m) (hw : Wn bs r N) (hr : r ≤ m - N) (hR : r ≤ R) : ∀ (row : List Mv) (s : Sd), GdS m N bs.length s → MvsOk N (dep s.1).length row → cSafe bs s.1 m N (s.2 : Nat) → plR (cLz bs m R) m bs.length s row ≠ none
  | [], s, _, _, _ => fun e => by cases e
  | mv :: row, s, g, mo, sf => by
    obtain ⟨s', e, sf'⟩ := lz_put bo hb g nm mo.1.ok hw hr hR sf
    obtain ⟨g', l'⟩ := nxS_gd (cLz_le bs m R) nm hb g mo.1.ok e
    show (match nxS (cLz bs m R) m bs.length s mv with | none => none | some s' => plR (cLz bs m R) m bs.length s' row) ≠ none
    rw [e]
    exact lz_never bo hb nm hw hr hR row s' g' (by rw [l']; exact mo.2) sf'
theorem lz_forever {bs : List Int} (bo : ∀ b ∈ bs, 0 ≤ b) (hb : 0 < bs.length) {m N r R : Nat} (n1 : 1 ≤ N) (nm : N ≤ m) (m2 : m ≤ 1000) (hw : Wn bs r N) (hr : r ≤ m - N) (hR : r ≤ R) {row : List Mv} (mo : MvsOk N 0 row) : plR (cLz bs m R) m bs.length ("", 0) row ≠ none := by
  obtain ⟨w0, c0⟩ := pok_nil (m := m) (N := N) (by omega) m2 n1
  refine lz_never bo hb nm hw hr hR row _ ⟨w0, hb⟩ (by rw [c0]; exact mo) (room_safe bo hb w0 nm hw hr ?_ _)
  show 0 + r ≤ m
  omega
def pk : Nat → List Nat
  | 0 => []
  | n + 1 => (n + 1) :: pk n
theorem pk_len : ∀ n, (pk n).length = n
  | 0 => rfl
  | n + 1 => by show (pk n).length + 1 = n + 1; rw [pk_len]
theorem pk_app : ∀ n, Lf.app (pk n) = pk (n + 1)
  | 0 => rfl
  | n + 1 => by
    show (n + 1 + 1) :: (Lf.up (pk n) ++ [1]) = (n + 2) :: pk (n + 1)
    have := pk_app n
    unfold Lf.app at this
    rw [this]
theorem pk_car : ∀ n, Lf.car (pk n) = pk n
  | 0 => rfl
  | n + 1 => pk_app n
theorem pk_cars : ∀ k n, Lf.cars k (pk n) = pk n
  | 0, n => rfl
  | k + 1, n => by show Lf.cars k (Lf.car (pk n)) = pk n; rw [pk_car]; exact pk_cars k n
theorem pk_head : ∀ n, Lf.len (pk n) = n
  | 0 => rfl
  | n + 1 => rfl
theorem pk_ok : ∀ n, Lf.Ok (pk n)
  | 0 => trivial
  | 1 => by show 0 < 1; omega
  | n + 2 => ⟨by omega, pk_ok (n + 1)⟩
theorem pk_get : ∀ {n i : Nat}, i < n → (pk n)[i]? = some (n - i)
  | n + 1, 0, _ => rfl
  | n + 1, i + 1, h => by
    show (pk n)[i]? = _
    rw [pk_get (by omega)]
    congr 1
    omega
end Lw
-- of law_k56_whole_lazy_edge
namespace Lw
open PySem PySem.Spec PyProof.Rows L2 Cy Tx
section
variable {bs : List Int} {m N R : Nat} {c : Str → Nat → Nat} {L : Nat}
theorem plR_app : ∀ {a b : List Mv} {s t : Sd}, plR c m L s a = some t → plR c m L s (a ++ b) = plR c m L t b
  | [], b, s, t, h => by cases h; rfl
  | x :: a, b, s, t, h => by
    show (match nxS c m L s x with | none => none | some s' => plR c m L s' (a ++ b)) = _
    have h : (match nxS c m L s x with | none => none | some s' => plR c m L s' a) = some t := h
    cases e : nxS c m L s x with
    | none => rw [e] at h; cases h
    | some s' => rw [e] at h; exact plR_app h
theorem plR_one {s t : Sd} {mv : Mv} {r : List Mv} (e : nxS c m L s mv = some t) : plR c m L s (mv :: r) = plR c m L t r := by
  show (match nxS c m L s mv with | none => none | some s' => plR c m L s' r) = _
  rw [e]
theorem MvsOk.app {M : Nat} : ∀ {a b : List Mv} {k : Nat}, MvsOk M k a → MvsOk M (a.foldl mvC k) b → MvsOk M k (a ++ b)
  | [], _, _, _, h => h
  | x :: a, b, k, h, h2 => ⟨h.1, MvsOk.app h.2 h2⟩
/-- a put on a packed word -/
theorem pk_put (hc : CLe c m) (nm : N ≤ m) (hL : 0 < L) {s : Sd} (g : GdS m N L s) {mv : Mv} (hm : MvOk s.1 N mv) {i : Nat} (hx : dep (mvW s.1 mv) = pk i) (hi : i < m) : ∃ s', nxS c m L s mv = some s' ∧ GdS m N L s' ∧ dep s'.1 = pk (i + 1) ∧ s'.2 = (s.2 + 1) % L := by
  obtain ⟨w2, mo⟩ := mv_word g.w nm hm
  have hlen : (mvW s.1 mv).length = i := by rw [← dep_head w2.ok, hx, pk_head]
  have e : nxS c m L s mv = some (nxt (mvW s.1 mv) (c (mvW s.1 mv) s.2), (s.2 + 1) % L) := if_neg (by omega)
  obtain ⟨g', _⟩ := nxS_gd hc nm hL g hm e
  refine ⟨_, e, g', ?_, rfl⟩
  obtain ⟨_, _, a3⟩ := put_gd (k := c (mvW s.1 mv) s.2) g.w nm hm (by omega) (hc.le _ _)
  show dep (nxt (mvW s.1 mv) _) = _
  rw [a3, hx, pk_cars, pk_app]
theorem news_to (hc : CLe c m) (nm : N ≤ m) (hL : 0 < L) : ∀ (k i : Nat) {s : Sd}, GdS m N L s → dep s.1 = pk i → i + k ≤ N → ∃ t, plR c m L s (List.replicate k .new) = some t ∧ GdS m N L t ∧ dep t.1 = pk (i + k) ∧ t.2 = (s.2 + k) % L
  | 0, i, s, g, hd, _ => ⟨s, rfl, g, hd, by show s.2 = (s.2 + 0) % L; rw [Nat.add_zero, Nat.mod_eq_of_lt g.p]⟩
  | k + 1, i, s, g, hd, hi => by
    have hm : MvOk s.1 N .new := by show (dep s.1).length < N; rw [hd, pk_len]; omega
    obtain ⟨s', e, g', d', p'⟩ := pk_put hc nm hL g hm (i := i) hd (by omega)
    obtain ⟨t, e2, g2, d2, p2⟩ := news_to hc nm hL k (i + 1) g' d' (by omega)
    refine ⟨t, ?_, g2, by rw [d2, show i + 1 + k = i + (k + 1) by omega], ?_⟩
    · rw [List.replicate_succ, plR_one e]; exact e2
    · rw [p2, p', Nat.mod_add_mod]; congr 1; omega
theorem olds_to (hc : CLe c m) (nm : N ≤ m) (hL : 0 < L) (n1 : 1 ≤ N) : ∀ (k : Nat) {s : Sd}, GdS m N L s → dep s.1 = pk N → ∃ t, plR c m L s (List.replicate k (.old 0)) = some t ∧ GdS m N L t ∧ dep t.1 = pk N ∧ t.2 = (s.2 + k) % L
  | 0, s, g, hd => ⟨s, rfl, g, hd, by show s.2 = (s.2 + 0) % L; rw [Nat.add_zero, Nat.mod_eq_of_lt g.p]⟩
  | k + 1, s, g, hd => by
    have hm : MvOk s.1 N (.old 0) := by show 0 < (dep s.1).length; rw [hd, pk_len]; omega
    obtain ⟨n, hn⟩ : ∃ n, N = n + 1 := ⟨N - 1, by omega⟩
    have hx : dep (mvW s.1 (.old 0)) = pk n := by
      obtain ⟨_, a2, _⟩ := rlW_all g.w.ok (i := 0) (by rw [hd, pk_len]; omega)
      show dep (rlW s.1 0) = _
      rw [a2, hd, hn]
      rfl
    obtain ⟨s', e, g', d', p'⟩ := pk_put hc nm hL g hm (i := n) hx (by omega)
    rw [← hn] at d'
    obtain ⟨t, e2, g2, d2, p2⟩ := olds_to hc nm hL n1 k g' d'
    refine ⟨t, ?_, g2, d2, ?_⟩
    · rw [List.replicate_succ, plR_one e]; exact e2
    · rw [p2, p', Nat.mod_add_mod]; congr 1; omega
/-- the budgets that Lazy uses in the newest play -/
def lzB (bs : List Int) (m N R p : Nat) (t : Nat) : Nat := if R + (N + t) < m then 0 else bN bs (p : Nat) t
theorem newest_to (bo : ∀ b ∈ bs, 0 ≤ b) (hb : 0 < bs.length) (nm : N ≤ m) (n1 : 1 ≤ N) {s : Sd} (g : GdS m N bs.length s) (hd : dep s.1 = pk N) (hc : Lf.cum (lzB bs m N R s.2) (m - N) < N - 1) : ∀ k, k ≤ m - N → ∃ t, plR (cLz bs m R) m bs.length s (List.replicate k (.old (N - 1))) = some t ∧ GdS m N bs.length t ∧ dep t.1 = Lf.Dn (lzB bs m N R s.2) N (pk N) k ∧ t.2 = (s.2 + k) % bs.length ∧ (mvW t.1 (.old (N - 1))).length = N + k := by
  have key : ∀ k, k ≤ m - N → ∀ t : Sd, GdS m N bs.length t → dep t.1 = Lf.Dn (lzB bs m N R s.2) N (pk N) k → (dep t.1).length = N → dep (mvW t.1 (.old (N - 1))) = Lf.R (lzB bs m N R s.2) N (pk N) k ∧ (mvW t.1 (.old (N - 1))).length = N + k := fun k hk t gt ht hl => by
    have hi : N - 1 < (dep t.1).length := by omega
    obtain ⟨w1, a2, _⟩ := rlW_all gt.w.ok hi
    have e1 : dep (rlW t.1 (N - 1)) = Lf.R (lzB bs m N R s.2) N (pk N) k := by
      rw [a2, Lf.R_rel, ← ht]
      unfold Lf.rel
      rw [if_neg (by omega), ← erase_last, hl]
    refine ⟨e1, ?_⟩
    show (rlW t.1 (N - 1)).length = N + k
    rw [← dep_head w1, e1]
    have hck : Lf.cum (lzB bs m N R s.2) k < Lf.n1 N (pk N) := by
      have := Lf.cum_mono (b := lzB bs m N R s.2) hk
      unfold Lf.n1
      rw [pk_len]
      omega
    have hC := (Lf.old_iff (b := lzB bs m N R s.2) (N := N) (D := pk N) k).mpr hck
    obtain ⟨d, e, el⟩ := Lf.len_old (b := lzB bs m N R s.2) (pk_ok N) (by rw [pk_len]; exact Nat.le_refl _) n1 hC
    have hlt : Lf.C (lzB bs m N R s.2) N (pk N) k < N := by unfold Lf.n1 at hC; omega
    rw [pk_get hlt] at e
    cases e
    rw [el]
    omega
  intro k
  induction k with
  | zero =>
    intro hk
    have hl : (dep s.1).length = N := by rw [hd, pk_len]
    exact ⟨s, rfl, g, hd, by show s.2 = (s.2 + 0) % bs.length; rw [Nat.add_zero, Nat.mod_eq_of_lt g.p], (key 0 hk s g hd hl).2⟩
  | succ k ih =>
    intro hk
    obtain ⟨t, e, gt, dt', pt, lt⟩ := ih (by omega)
    have hln : (dep t.1).length = N := by
      have h1 := (plR_gd (cLz_le bs m R) nm hb (r := List.replicate k (.old (N - 1))) g ?_ e).2
      · rw [h1, hd, pk_len]
        have : ∀ k, (List.replicate k (Mv.old (N - 1))).foldl mvC N = N := fun k => by
          induction k with
          | zero => rfl
          | succ k ih => exact ih
        exact this k
      · rw [hd, pk_len]
        have : ∀ k, MvsOk N N (List.replicate k (.old (N - 1))) := fun k => by
          induction k with
          | zero => trivial
          | succ k ih => exact ⟨show N - 1 < N by omega, ih⟩
        exact this k
    obtain ⟨k1, k2⟩ := key k (by omega) t gt dt' hln
    have hm : MvOk t.1 N (.old (N - 1)) := by show N - 1 < (dep t.1).length; omega
    have e2 : nxS (cLz bs m R) m bs.length t (.old (N - 1)) = some (nxt (mvW t.1 (.old (N - 1))) (cLz bs m R (mvW t.1 (.old (N - 1))) t.2), (t.2 + 1) % bs.length) := if_neg (by omega)
    obtain ⟨g', l'⟩ := nxS_gd (cLz_le bs m R) nm hb gt hm e2
    obtain ⟨_, _, a3⟩ := put_gd (k := cLz bs m R (mvW t.1 (.old (N - 1))) t.2) gt.w nm hm (by omega) ((cLz_le bs m R).le _ _)
    have hd' : dep (nxt (mvW t.1 (.old (N - 1))) (cLz bs m R (mvW t.1 (.old (N - 1))) t.2)) = Lf.Dn (lzB bs m N R s.2) N (pk N) (k + 1) := by
      rw [a3, k1]
      show _ = Lf.app (Lf.cars (min (lzB bs m N R s.2 k) (Lf.rel N (Lf.Dn (lzB bs m N R s.2) N (pk N) k)).length) (Lf.rel N (Lf.Dn (lzB bs m N R s.2) N (pk N) k)))
      rw [← Lf.R_rel]
      congr 2
      unfold cLz lzB
      rw [k2]
      by_cases q : R + (N + k) < m
      · rw [if_pos q, if_pos q, Nat.zero_min]
      · rw [if_neg q, if_neg q, mostN_b (by omega), k1]
        congr 1
        have e3 : bN bs ((t.2 : Nat) : Int) = bN bs ((s.2 + k : Nat) : Int) := by rw [pt, Int.natCast_emod, bN_mod]
        rw [e3]
        unfold bN
        congr 2
    refine ⟨_, ?_, g', hd', ?_, (key (k + 1) hk _ g' hd' (by rw [l', hln]; rfl)).2⟩
    · rw [List.replicate_succ', plR_snoc e]; exact e2
    · show (t.2 + 1) % bs.length = _
      rw [pt, Nat.mod_add_mod]; rfl
theorem lzB_cum (bo : ∀ b ∈ bs, 0 ≤ b) (nm : N ≤ m) (p : Nat) : ((Lf.cum (lzB bs m N R p) (m - N) : Nat) : Int) = cumI bs ((p + (m - N - min R (m - N)) : Nat) : Int) (min R (m - N)) := by
  have e0 : ∀ a, a ≤ m - N - min R (m - N) → Lf.cum (lzB bs m N R p) a = 0 := fun a => by
    induction a with
    | zero => intro _; rfl
    | succ a ih =>
      intro h
      show Lf.cum (lzB bs m N R p) a + lzB bs m N R p a = 0
      rw [ih (by omega)]
      unfold lzB
      rw [if_pos (by omega)]
  have e1 : m - N = (m - N - min R (m - N)) + min R (m - N) := by omega
  have e2 := Lf.cum_add (b := lzB bs m N R p) (m - N - min R (m - N)) (min R (m - N))
  rw [← e1, e0 _ (Nat.le_refl _), Nat.zero_add] at e2
  rw [e2, ← cum_int bo]
  congr 1
  rw [show bN bs ((p + (m - N - min R (m - N)) : Nat) : Int) = fun s => bN bs (p : Nat) (m - N - min R (m - N) + s) from by rw [bN_shift]; congr 1]
  have : ∀ k, k ≤ min R (m - N) → Lf.cum (fun s => lzB bs m N R p (m - N - min R (m - N) + s)) k = Lf.cum (fun s => bN bs (p : Nat) (m - N - min R (m - N) + s)) k := fun k => by
    induction k with
    | zero => intro _; rfl
    | succ k ih =>
      intro h
      show Lf.cum _ k + lzB bs m N R p (m - N - min R (m - N) + k) = Lf.cum _ k + bN bs (p : Nat) (m - N - min R (m - N) + k)
      rw [ih (by omega)]
      unfold lzB
      rw [if_neg (by omega)]
  exact this _ (Nat.le_refl _)
/-- the row of new keys, of puts of the oldest, of the newest play -/
def rowA (m N sh : Nat) : List Mv := List.replicate N .new ++ List.replicate sh (.old 0) ++ List.replicate (m - N) (.old (N - 1))
theorem row_stalls (bo : ∀ b ∈ bs, 0 ≤ b) (hb : 0 < bs.length) (nm : N ≤ m) (n1 : 1 ≤ N) (m2 : m ≤ 1000) {sh : Nat} (h : cumI bs ((N + sh + (m - N - min R (m - N)) : Nat) : Int) (min R (m - N)) < (N : Int) - 1) :
    (∃ t, plR (cLz bs m R) m bs.length ("", 0) (rowA m N sh) = some t ∧ nxS (cLz bs m R) m bs.length t (.old (N - 1)) = none) ∧ MvsOk N 0 (rowA m N sh ++ [.old (N - 1)]) := by
  obtain ⟨w0, c0⟩ := pok_nil (m := m) (N := N) (by omega) m2 n1
  have hc := cLz_le bs m R
  obtain ⟨t1, e1, g1, d1, p1⟩ := news_to (s := ("", 0)) hc nm hb N 0 ⟨w0, hb⟩ (by rw [dep_e]; rfl) (by omega)
  rw [Nat.zero_add] at d1
  obtain ⟨t2, e2, g2, d2, p2⟩ := olds_to hc nm hb n1 sh g1 d1
  have hp : t2.2 = (N + sh) % bs.length := by
    rw [p2, p1, Nat.mod_add_mod]
    show (0 + N + sh) % _ = _
    rw [Nat.zero_add]
  have hcum : Lf.cum (lzB bs m N R t2.2) (m - N) < N - 1 := by
    have e := lzB_cum (R := R) bo nm t2.2
    have e3 : cumI bs ((t2.2 + (m - N - min R (m - N)) : Nat) : Int) (min R (m - N)) = cumI bs ((N + sh + (m - N - min R (m - N)) : Nat) : Int) (min R (m - N)) := by
      rw [← cumI_mod, ← cumI_mod ((N + sh + (m - N - min R (m - N)) : Nat) : Int), hp]
      congr 1
      rw [← Int.natCast_emod, ← Int.natCast_emod, Nat.mod_add_mod]
    rw [e3] at e
    omega
  obtain ⟨t3, e4, g3, _, _, l3⟩ := newest_to bo hb nm n1 g2 d2 hcum (m - N) (Nat.le_refl _)
  refine ⟨⟨t3, ?_, if_pos (by omega)⟩, ?_⟩
  · unfold rowA
    rw [List.append_assoc, plR_app e1, plR_app e2]
    exact e4
  · unfold rowA
    have q1 : ∀ k i, i + k ≤ N → MvsOk N i (List.replicate k .new) ∧ (List.replicate k Mv.new).foldl mvC i = i + k := fun k => by
      induction k with
      | zero => intro i _; exact ⟨trivial, rfl⟩
      | succ k ih =>
        intro i hi
        obtain ⟨a, b⟩ := ih (i + 1) (by omega)
        exact ⟨⟨show i < N by omega, a⟩, by show (List.replicate k Mv.new).foldl mvC (i + 1) = _; rw [b]; omega⟩
    have q2 : ∀ k x, x < N → MvsOk N N (List.replicate k (.old x)) ∧ (List.replicate k (Mv.old x)).foldl mvC N = N := fun k x hx => by
      induction k with
      | zero => exact ⟨trivial, rfl⟩
      | succ k ih => exact ⟨⟨hx, ih.1⟩, ih.2⟩
    obtain ⟨a1, b1⟩ := q1 N 0 (by omega)
    rw [Nat.zero_add] at b1
    obtain ⟨a2, b2⟩ := q2 sh 0 (by omega)
    obtain ⟨a3, b3⟩ := q2 (m - N) (N - 1) (by omega)
    refine ((a1.app (by rw [b1]; exact a2)).app ?_).snoc ?_
    · rw [List.foldl_append, b1, b2]; exact a3
    · rw [List.foldl_append, List.foldl_append, b1, b2, b3]
      show N - 1 < N
      omega
/-- some row stalls, if somewhere the budgets are too poor -/
theorem some_stall (bo : ∀ b ∈ bs, 0 ≤ b) (hb : 0 < bs.length) (nm : N ≤ m) (n1 : 1 ≤ N) (m2 : m ≤ 1000) (h : ¬ Wn bs (min R (m - N)) N) : ∃ row, MvsOk N 0 row ∧ plR (cLz bs m R) m bs.length ("", 0) row = none := by
  have h : ∃ f, f < bs.length ∧ cumI bs (f : Nat) (min R (m - N)) < (N : Int) - 1 := by
    refine Classical.byContradiction fun q => h fun f hf => ?_
    refine Int.not_lt.mp fun z => q ⟨f, hf, z⟩
  obtain ⟨f, hf, h⟩ := h
  let a := N + (m - N - min R (m - N))
  have e : N + (f + bs.length * a - a) + (m - N - min R (m - N)) = f + a * bs.length := by
    have h1 : a ≤ bs.length * a := Nat.le_mul_of_pos_left a hb
    have h2 : bs.length * a = a * bs.length := Nat.mul_comm _ _
    have h3 : a = N + (m - N - min R (m - N)) := rfl
    omega
  obtain ⟨⟨t, e1, e2⟩, mo⟩ := row_stalls (R := R) (sh := f + bs.length * a - a) bo hb nm n1 m2 (by
    rw [e]
    have := cumI_per bs (f : Nat) a (min R (m - N))
    rw [show ((f + a * bs.length : Nat) : Int) = (f : Int) + (a : Int) * (bs.length : Int) by rw [Int.natCast_add, Int.natCast_mul], this]
    exact h)
  exact ⟨_, mo, by rw [plR_snoc e1]; exact e2⟩
end
end Lw
-- of law_k56_whole_lazy_edge
namespace Lw
open PySem PySem.Spec PyProof.Rows L2 Cy Tx
def Wq (bs : List Int) (c : Nat) (q : Int) : Prop := ∀ f, f < bs.length → q ≤ cumI bs (f : Nat) c
def winL (bs : List Int) (c : Nat) : List Int := (List.range bs.length).map fun k => cumI bs (k : Nat) c
theorem mem_win {bs : List Int} {c : Nat} {v : Int} : v ∈ winL bs c ↔ ∃ f, f < bs.length ∧ cumI bs (f : Nat) c = v := by
  unfold winL
  rw [List.mem_map]
  exact ⟨fun ⟨f, hf, e⟩ => ⟨f, List.mem_range.mp hf, e⟩, fun ⟨f, hf, e⟩ => ⟨f, List.mem_range.mpr hf, e⟩⟩
/-- the least window -/
def LeW (bs : List Int) (c : Nat) (v : Int) : Prop := v ∈ winL bs c ∧ ∀ y ∈ winL bs c, v ≤ y
theorem LeW.iff {bs : List Int} {c : Nat} {v q : Int} (h : LeW bs c v) : q ≤ v ↔ Wq bs c q := by
  constructor
  · intro hq f hf
    have := h.2 _ (mem_win.mpr ⟨f, hf, rfl⟩)
    omega
  · intro hq
    obtain ⟨f, hf, e⟩ := mem_win.mp h.1
    have := hq f hf
    omega
structure Nd (bs : List Int) (c : Nat) (q : Int) : Prop where
  ok : Wq bs c q
  min : ∀ c', c' < c → ¬ Wq bs c' q
theorem Nd.uniq {bs : List Int} {c d : Nat} {q : Int} (h : Nd bs c q) (k : Nd bs d q) : c = d := by
  rcases Nat.lt_trichotomy c d with z | z | z
  · exact absurd h.ok (k.min c z)
  · exact z
  · exact absurd k.ok (h.min d z)
/-- the answer of reach -/
def NdV (bs : List Int) (q : Int) (v : V) : Prop := (v = .non ∧ ∀ c, ¬ Wq bs c q) ∨ ∃ c : Nat, v = nat c ∧ Nd bs c q
section
variable {g : Wd} {j : Nat} {H : Hp}
def spWins (g : Wd) : Sp := fun vs H Q _ => ∃ (r : Addr) (bs : List Int) (c : Nat), vs = [.ref r, nat c] ∧ RoundAt g H r bs ∧ BsOk bs ∧ c < 2 ^ 40 ∧ ∀ q H', Gr H H' → H' q = some (.lst ((winL bs c).map V.int)) → Q (.ref q) H'
theorem p_wins (T : Top g) : FnG g 4 (mad g.K (gad g.K "Round") "_windows") (spWins g) := fk_Round__windows T 2 fun vs H Q E ⟨r, bs, c, ev, hr, hb, hc, h⟩ => by
  subst ev
  obtain ⟨dx, t, h1, h2⟩ := id hr
  have l12 := hb.l2
  refine ⟨rfl, FldP.by rfl h1 (cl_Round T) (na_Round__budgets T) lk1 ?_⟩
  refine LenP.t (.of h2) ?_
  rw [List.length_map]
  refine ⟨_, rfl, by omega, by omega, fun D hD => ?_⟩
  have en : ((bs.length : Nat) : Int).toNat = bs.length := by omega
  rw [en]
  refine lc_rng (by rw [sizeLine_eq]; omega) hD (fun a => some (.int (cumI bs (a : Nat) c))) (fun a ha H2 R k2 hR => ?_) (fun H2 k2 e2 => ?_)
  · refine ⟨rfl, ?_⟩
    refine MethP.own rfl (k2 _ _ h1) (cl_Round T) (mt_Round__window T) (lkn (by decide)) ?_
    refine CallP.by (p_win T) (by decide) ⟨r, bs, 0 + (a : Nat), c, rfl, hr.gr k2, hb, by omega, by omega, fun H3 k3 => ?_⟩
    rw [cum_int hb.nn, Int.zero_add]
    exact hR _ k3
  · rw [filterMap_all] at e2
    refine h D H2 k2 ?_
    rw [e2]
    unfold winL
    rw [List.map_map]
    rfl
def spLeast (g : Wd) : Sp := fun vs H Q _ => ∃ (r : Addr) (bs : List Int) (c : Nat), vs = [.ref r, nat c] ∧ RoundAt g H r bs ∧ BsOk bs ∧ c < 2 ^ 40 ∧ ∀ v H', Gr H H' → LeW bs c v → Q (.int v) H'
theorem p_least (T : Top g) : FnG g 6 (mad g.K (gad g.K "Round") "least") (spLeast g) := fk_Round_least T 4 fun vs H Q E ⟨r, bs, c, ev, hr, hb, hc, h⟩ => by
  subst ev
  obtain ⟨dx, t, h1, h2⟩ := id hr
  refine ⟨rfl, CallP.by (p_at_least T (j := 2) (by decide)) (by decide) ⟨_, _, _, rfl, by decide +kernel, ?_⟩⟩
  rw [if_neg (by omega)]
  refine MethP.own rfl h1 (cl_Round T) (mt_Round__windows T) (lkn (by decide)) ?_
  refine CallP.by (p_wins T) (by decide) ⟨r, bs, c, rfl, hr, hb, hc, fun q H1 k1 hq => ?_⟩
  refine MnP.l (.of hq) (by unfold winL; rw [List.length_map, List.length_range]; exact hb.l1) fun v hv hmin => h v H1 k1 ⟨hv, hmin⟩
theorem sum_zero : ∀ {l : List Int}, (∀ b ∈ l, 0 ≤ b) → l.sum = 0 → ∀ b ∈ l, b = 0
  | [], _, _, b, hb => by cases hb
  | a :: r, h, e, b, hb => by
    rw [List.sum_cons] at e
    have h1 := h a List.mem_cons_self
    have h2 : 0 ≤ r.sum := sum_nn fun x hx => h x (List.mem_cons_of_mem _ hx)
    rcases List.mem_cons.mp hb with rfl | hb
    · omega
    · exact sum_zero (fun x hx => h x (List.mem_cons_of_mem _ hx)) (by omega) b hb
  where sum_nn : ∀ {l : List Int}, (∀ b ∈ l, 0 ≤ b) → 0 ≤ l.sum
    | [], _ => by decide
    | a :: r, h => by
      rw [List.sum_cons]
      have h1 := h a List.mem_cons_self
      have h2 : 0 ≤ r.sum := sum_nn fun x hx => h x (List.mem_cons_of_mem _ hx)
      omega
theorem sum_nn' : ∀ {l : List Int}, (∀ b ∈ l, 0 ≤ b) → 0 ≤ l.sum
  | [], _ => by decide
  | a :: r, h => by
    rw [List.sum_cons]
    have h1 := h a List.mem_cons_self
    have h2 : 0 ≤ r.sum := sum_nn' fun x hx => h x (List.mem_cons_of_mem _ hx)
    omega
theorem cum_zero {bs : List Int} (h : ∀ b ∈ bs, b = 0) (ph : Int) : ∀ c, cumI bs ph c = 0
  | 0 => rfl
  | c + 1 => by
    show cumI bs ph c + bat bs (ph + (c : Nat)) = 0
    rw [cum_zero h ph c]
    unfold bat
    rw [List.getD_eq_getElem?_getD]
    cases e : bs[((ph + (c : Nat)) % (bs.length : Int)).toNat]? with
    | none => rfl
    | some b => exact (by rw [h b (List.mem_of_getElem? e)]; rfl)
theorem cumI_mono {bs : List Int} (bo : ∀ b ∈ bs, 0 ≤ b) (ph : Int) {a b : Nat} (h : a ≤ b) : cumI bs ph a ≤ cumI bs ph b := by
  obtain ⟨d, rfl⟩ : ∃ d, b = a + d := ⟨b - a, by omega⟩
  rw [cumI_add]
  have := cumI_nn bo (ph + (a : Nat)) d
  omega
/-- whole rounds and what is left -/
theorem reach_ok {bs : List Int} (bo : ∀ b ∈ bs, 0 ≤ b) (hb : 0 < bs.length) {q rest : Int} {turns cnt : Nat} (e : q = (turns : Int) * bs.sum + rest) (h0 : 0 < rest) (h1 : Wq bs cnt rest) (h2 : ∀ c, 1 ≤ c → c < cnt → ¬ Wq bs c rest) (h3 : 1 ≤ cnt) : Nd bs (turns * bs.length + cnt) q := by
  have key : ∀ c, Wq bs (turns * bs.length + c) q ↔ Wq bs c rest := fun c => by
    constructor <;> intro h f hf <;> have := h f hf
    · rw [turns_sum hb, e] at this; omega
    · rw [turns_sum hb, e]; omega
  refine ⟨(key cnt).mpr h1, fun c' hc' w => ?_⟩
  by_cases z : c' ≤ turns * bs.length
  · have h4 := w 0 hb
    have h5 := cumI_mono bo ((0 : Nat) : Int) z
    have h6 := turns_sum hb ((0 : Nat) : Int) turns 0
    rw [Nat.add_zero] at h6
    have h7 : cumI bs ((0 : Nat) : Int) 0 = 0 := rfl
    omega
  · obtain ⟨c, rfl⟩ : ∃ c, c' = turns * bs.length + c := ⟨c' - turns * bs.length, by omega⟩
    exact h2 c (by omega) (by omega) ((key c).mp w)
end
end Lw
-- of law_k56_whole_lazy_edge
namespace Lw
open PySem PySem.Spec PyProof.Rows L2 Cy Tx
section
variable {g : Wd} {j : Nat} {H : Hp}
def spReach (g : Wd) : Sp := fun vs H Q _ => ∃ (r : Addr) (bs : List Int) (q : Nat), vs = [.ref r, nat q] ∧ RoundAt g H r bs ∧ BsOk bs ∧ q < 2 ^ 20 ∧ ∀ v H', Gr H H' → NdV bs (q : Nat) v → Q v H'
theorem p_reach (T : Top g) : FnG g 8 (mad g.K (gad g.K "Round") "reach") (spReach g) := fk_Round_reach T 6 fun vs H Q E ⟨r, bs, q, ev, hr, hb, hq, h⟩ => by
  subst ev
  obtain ⟨dx, t, h1, h2⟩ := id hr
  have l1 := hb.l1
  have l12 := hb.l2
  refine ⟨rfl, ite_i (fun c => ?_) (fun c => ?_)⟩
  · have c1 := of_decide_eq_true c
    exact h (nat 0) H Gr.refl (.inr ⟨0, rfl, ⟨fun f _ => by show ((q : Nat) : Int) ≤ 0; omega, fun c' h => absurd h (Nat.not_lt_zero _)⟩⟩)
  have c1 := of_decide_eq_false c
  refine FldP.by rfl h1 (cl_Round T) (na_Round__budgets T) lkB ?_
  refine SumP.t (ns := bs) (.of h2) ?_
  dsimp only [gName]
  refine ite_i (fun c => ?_) (fun c => ?_)
  · have c2 := dt0 c
    refine h .non H Gr.refl (.inl ⟨rfl, fun c' w => ?_⟩)
    have := w 0 l1
    rw [cum_zero (sum_zero hb.nn c2)] at this
    omega
  have c2 := df0 c
  have hs := sum_nn' hb.nn
  obtain ⟨s1, s2⟩ := bs_sum hb
  generalize hS : bs.sum = S at *
  have tn : 0 ≤ ((q : Nat) - 1 : Int) / S := Int.ediv_nonneg (by omega) (by omega)
  have tl : ((q : Nat) - 1 : Int) / S ≤ (q : Nat) - 1 := Int.ediv_le_self _ (by omega)
  have em := Int.mul_ediv_add_emod ((q : Nat) - 1 : Int) S
  have e1 := Int.emod_nonneg ((q : Nat) - 1 : Int) (b := S) (by omega)
  have e2 := Int.emod_lt_of_pos ((q : Nat) - 1 : Int) (b := S) (by omega)
  obtain ⟨tr, ht⟩ : ∃ tr : Nat, ((q : Nat) - 1 : Int) / S = (tr : Int) := ⟨(((q : Nat) - 1 : Int) / S).toNat, by omega⟩
  obtain ⟨rest, hrest⟩ : ∃ rest : Int, rest = (q : Nat) - (tr : Int) * S := ⟨_, rfl⟩
  have er : 0 < rest ∧ rest ≤ S := by
    have e3 : S * (tr : Int) = (tr : Int) * S := Int.mul_comm _ _
    rw [ht, e3] at em
    omega
  have hL : ∀ f : Nat, f < bs.length → cumI bs (f : Nat) bs.length = S := fun f hf => by rw [round_sum hf, hS]
  have wL : Wq bs bs.length rest := fun f hf => by rw [hL f hf]; exact er.2
  have lgS : S.natAbs.log2 < 200 := log2_lt (by decide) (by
    have : S.natAbs ≤ 12 * 10 ^ 30 := by omega
    exact Nat.lt_of_le_of_lt this (by decide))
  have lgt : (tr : Int).natAbs.log2 < 62 := log2_lt (by decide) (by omega)
  dsimp only [tNext]
  refine seq_cutR (fun σ' H' => H' = H ∧ σ' = [some (.ref r), some (nat q), some (.int S), some (nat tr), none, none]) (fun N' hN => ?_) ?_
  · refine ⟨⟨by omega, by omega⟩, ?_⟩
    have key := hN [some (.ref r), some (nat q), some (.int S), some (nat tr), none, none] H ⟨rfl, rfl⟩
    have e3 : nat tr = V.int (((q : Nat) - 1 : Int) / S) := congrArg V.int ht.symm
    rw [e3] at key
    exact key
  rintro σ' H' ⟨rfl, rfl⟩
  refine seq_cutR (fun σ' H2 => H2 = H' ∧ σ' = [some (.ref r), some (nat q), some (.int S), some (nat tr), some (.int rest), none]) (fun N' hN => ?_) ?_
  · refine ⟨?_, ?_⟩
    · show (tr : Int).natAbs.log2 + S.natAbs.log2 < 1000000
      omega
    · have key := hN [some (.ref r), some (nat q), some (.int S), some (nat tr), some (.int rest), none] H' ⟨rfl, rfl⟩
      rw [hrest] at key
      exact key
  rintro σ' H2 ⟨rfl, rfl⟩
  refine seq_cutR (fun σ' H' => H' = H2 ∧ σ' = [some (.ref r), some (nat q), some (.int S), some (nat tr), some (.int rest), some (nat 1)]) (fun N2 hN2 => hN2 _ _ ⟨rfl, rfl⟩) ?_
  rintro σ' H3 ⟨rfl, rfl⟩
  refine seq_cutR (fun σ' H4 => Gr H3 H4 ∧ ∃ cnt : Nat, 1 ≤ cnt ∧ cnt ≤ 12 ∧ Wq bs cnt rest ∧ (∀ c, 1 ≤ c → c < cnt → ¬ Wq bs c rest) ∧ σ' = [some (.ref r), some (nat q), some (.int S), some (nat tr), some (.int rest), some (nat cnt)]) (fun N' hN => ?_) ?_
  · refine ⟨fun x σ H' => ∃ cnt : Nat, x = bs.length + 1 - cnt ∧ 1 ≤ cnt ∧ cnt ≤ bs.length ∧ Gr H3 H' ∧ (∀ c, 1 ≤ c → c < cnt → ¬ Wq bs c rest) ∧ σ = [some (.ref r), some (nat q), some (.int S), some (nat tr), some (.int rest), some (nat cnt)], ⟨_, 1, rfl, Nat.le_refl _, l1, Gr.refl, fun c h1 h2 => by omega, rfl⟩, ?_⟩
    rintro x σ H4 ⟨cnt, ex, h3, h4, k4, no, rfl⟩
    refine MethP.own rfl (k4 _ _ h1) (cl_Round T) (mt_Round_least T) (lkn (by decide)) ?_
    refine CallP.by (p_least T) (by decide) ⟨r, bs, cnt, rfl, hr.gr k4, hb, by omega, fun v H5 k5 hv => ?_⟩
    refine ite_i (fun c => ?_) (fun c => ?_)
    · have c3 := of_decide_eq_true c
      have nw : ¬ Wq bs cnt rest := fun w => by have := hv.iff.mpr w; omega
      have ncL : cnt ≠ bs.length := fun e => by rw [e] at nw; exact nw wL
      refine ⟨fun σ' H' => ∃ cnt' : Nat, bs.length + 1 - (cnt + 1) = bs.length + 1 - cnt' ∧ 1 ≤ cnt' ∧ cnt' ≤ bs.length ∧ Gr H3 H' ∧ (∀ c, 1 ≤ c → c < cnt' → ¬ Wq bs c rest) ∧ σ' = [some (.ref r), some (nat q), some (.int S), some (nat tr), some (.int rest), some (nat cnt')], fun σ' H' w => ⟨_, by omega, w⟩, ?_⟩
      refine ⟨cnt + 1, rfl, by omega, by omega, k4.trans k5, fun c' h5 h6 => ?_, rfl⟩
      by_cases z : c' = cnt
      · rw [z]; exact nw
      · exact no c' h5 (by omega)
    · have c3 := of_decide_eq_false c
      exact hN _ _ ⟨k4.trans k5, cnt, h3, by omega, hv.iff.mp (by omega), no, rfl⟩
  · rintro σ' H4 ⟨k4, cnt, c1', c12, w, no, rfl⟩
    refine FldP.by rfl (k4 _ _ h1) (cl_Round T) (na_Round__budgets T) lkB ?_
    refine LenP.t (.of (k4 _ _ h2)) ?_
    rw [List.length_map]
    refine ⟨?_, ?_⟩
    · have lgL : (bs.length : Int).natAbs.log2 < 62 := log2_lt (by decide) (by omega)
      show (tr : Int).natAbs.log2 + (bs.length : Int).natAbs.log2 < 1000000
      omega
    · have nd := reach_ok hb.nn l1 (q := (q : Nat)) (turns := tr) (rest := rest) (cnt := cnt) (by rw [hS]; omega) er.1 w no c1'
      have := h (nat (tr * bs.length + cnt)) H4 k4 (.inr ⟨_, rfl, nd⟩)
      have e5 : nat (tr * bs.length + cnt) = V.int ((tr : Int) * (bs.length : Int) + (cnt : Int)) := congrArg V.int (by rw [Int.natCast_add, Int.natCast_mul])
      rw [e5] at this
      exact this
def spLfree (g : Wd) : Sp := fun vs H Q _ => ∃ (r : Addr) (bs : List Int) (N : Nat), vs = [nat N, .ref r] ∧ RoundAt g H r bs ∧ BsOk bs ∧ 1 ≤ N ∧ N < 2 ^ 20 ∧ ∀ v H', Gr H H' → NdV bs ((N : Int) - 1) v → Q v H'
theorem p_lfree (T : Top g) : FnG g 10 (gad g.K "least_free") (spLfree g) := fk_least_free T 8 fun vs H Q E ⟨r, bs, N, ev, hr, hb, n1, n2, h⟩ => by
  subst ev
  obtain ⟨dx, t, h1, h2⟩ := id hr
  refine ⟨rfl, CallP.by (p_at_least T (j := 2) (by decide)) (by decide) ⟨_, _, _, rfl, by decide +kernel, ?_⟩⟩
  rw [if_neg (by omega)]
  refine MethP.own rfl h1 (cl_Round T) (mt_Round_reach T) (lkn (by decide)) ?_
  have e : V.int ((N : Int) - 1) = nat (N - 1) := congrArg V.int (by omega)
  show CallP _ _ _ [.ref r, .int ((N : Int) - 1)] _ _ _
  rw [e]
  refine CallP.by (p_reach T) (by decide) ⟨r, bs, N - 1, rfl, hr, hb, by omega, fun v H' k hv => h v H' k ?_⟩
  have e2 : ((N - 1 : Nat) : Int) = (N : Int) - 1 := by omega
  rw [e2] at hv
  exact hv
def spOrd : Sp := fun vs H Q _ => vs = [.bl false, .int 0, .int 0] ∧ Q .non H
theorem p_ord (T : Top g) : FnG g 6 (gad g.K "_check_order") spOrd := fk__check_order T 4 fun vs H Q E ⟨ev, h⟩ => by
  subst ev
  refine ⟨rfl, CallP.by (p_at_least T (j := 2) (by decide)) (by decide) ⟨_, _, _, rfl, by decide +kernel, ?_⟩⟩
  rw [if_neg (by omega)]
  refine CallP.by (p_at_least T (j := 2) (by decide)) (by decide) ⟨_, _, _, rfl, by decide +kernel, ?_⟩
  rw [if_neg (by omega)]
  refine CallP.by (p_at_most T (j := 2) (by decide)) (by decide) ⟨_, _, _, rfl, by decide +kernel, ?_⟩
  rw [if_neg (by omega)]
  exact h
def spLost : Sp := fun vs H Q _ => vs = [.bl false, .int 0] ∧ Q (.int 0) H
theorem p_lost (T : Top g) : FnG g 2 (gad g.K "_lost_places") spLost := fk__lost_places T 0 fun vs H Q E ⟨ev, h⟩ => by
  subst ev
  exact ⟨rfl, h⟩
def spK23 (sp : Sp) : SpK := fun vs zs H Q E => ∃ a b c d e : V, vs = [a, b] ∧ zs = [c, d, e] ∧ sp [a, b, c, d, e] H Q E
def spEff : Sp := fun vs H Q _ => ∃ (m N : Nat), vs = [nat m, nat N, .bl false, .int 0, .int 0] ∧ 1 ≤ m ∧ 1 ≤ N ∧ N < 2 ^ 20 ∧ ∀ p H', Gr H H' → H' p = some (.tup [nat m, nat N]) → Q (.ref p) H'
theorem k_eff (T : Top g) : FnK g 8 (gad g.K "effective") ["late", "tears", "readers"] (spK23 spEff) := by
  obtain ⟨fd, D⟩ := fd_effective T
  obtain ⟨mv, hb⟩ := FunD.kbinds0 (ps := ["places", "limit", "late", "tears", "readers"]) D 2 ["late", "tears", "readers"] [] (fun us mv ws => us ++ ws) (by intro e; cases e) (fun q hq => by cases hq) (fun r1 _ r2 => r1.append r2) (fun Dd doc pm an cdv ct us mv ws h1 h2 h3 => match us, mv, ws, h1, h2, h3 with
    | [_, _], [], [_, _, _], _, _, _ => rfl)
  intro A outer s H us ws vs zs Q E hr e0 r rz hh
  obtain ⟨a, b, c', d, e, rfl, rfl, hs⟩ := hh
  refine FnK.of (ok_effective T D (j := 6) fun vs H Q E ⟨m, N, ev, hm, hN, hN2, h⟩ => ?_) hb A outer s H us ws _ _ Q E hr e0 r rz ⟨rfl, rfl, hs⟩
  subst ev
  refine ⟨rfl, CallP.by (p_at_least T (j := 2) (by decide)) (by decide) ⟨_, _, _, rfl, by decide +kernel, ?_⟩⟩
  rw [if_neg (by omega)]
  refine CallP.by (p_at_least T (j := 2) (by decide)) (by decide) ⟨_, _, _, rfl, by decide +kernel, ?_⟩
  rw [if_neg (by omega)]
  refine CallP.by (p_ord T) (by decide) ⟨rfl, ?_⟩
  refine CallP.by (p_lost T) (by decide) ⟨rfl, ?_⟩
  refine ⟨?_, (by decide : 2 ≤ sizeLine), fun p hp => h p _ (Gr.new hp) ?_⟩
  · show (N : Int).natAbs.log2 + ((0 : Int) + 1).natAbs.log2 < 1000000
    have h1 : (N : Int).natAbs.log2 < 62 := log2_lt (by decide) (by omega)
    have h2 : ((0 : Int) + 1).natAbs.log2 = 0 := by decide
    omega
  · rw [upd_same]
    have e1 : (m : Int) - 0 = (m : Int) := by omega
    have e2 : (N : Int) * (0 + 1) = (N : Int) := by omega
    show some (HO.tup [V.int ((m : Int) - 0), V.int ((N : Int) * (0 + 1))]) = _
    rw [e1, e2]
def spRgo (g : Wd) : Sp := fun vs H Q _ => ∃ (r : Addr) (bs : List Int) (m N : Nat), vs = [nat m, nat N, .ref r] ∧ RoundAt g H r bs ∧ BsOk bs ∧ 1 ≤ m ∧ m < 2 ^ 20 ∧ 1 ≤ N ∧ N < 2 ^ 20 ∧ ∀ (b : Bool) H', Gr H H' → (b = true ↔ (N ≤ m ∧ Wq bs (m - N) ((N : Int) - 1))) → Q (.bl b) H'
theorem p_rgo (T : Top g) : FnG g 10 (gad g.K "ring_goes_on") (spRgo g) := by
  obtain ⟨fd, F⟩ := fd_ring_goes_on T
  have F2 : FnOk g.P g.w g.K g.mg g.base (L2.CX g.P g.w) 10 (gad g.K "ring_goes_on") fd ["places", "limit", "budgets", "late", "tears", "readers"] (fun vs H Q E => ∃ (r : Addr) (bs : List Int) (m N : Nat), vs = [nat m, nat N, .ref r, .bl false, .int 0, .int 0] ∧ RoundAt g H r bs ∧ BsOk bs ∧ 1 ≤ m ∧ m < 2 ^ 20 ∧ 1 ≤ N ∧ N < 2 ^ 20 ∧ ∀ (b : Bool) H', Gr H H' → (b = true ↔ (N ≤ m ∧ Wq bs (m - N) ((N : Int) - 1))) → Q (.bl b) H') :=
    ok_ring_goes_on T F (j := 8) fun vs H Q E ⟨r, bs, m, N, ev, hr, hb, m1, m2, n1, n2, h⟩ => by
      subst ev
      refine ⟨rfl, CallKP.by (k_eff T) (by decide) ⟨_, _, _, _, _, rfl, rfl, m, N, rfl, m1, n1, n2, fun p H1 k1 hp => ?_⟩⟩
      refine UnpP.t rfl (.of hp) rfl ?_
      dsimp only [cgCons, cgNil, gName]
      refine ite_i (fun c => ?_) (fun c => ?_)
      · have c1 := of_decide_eq_true c
        obtain ⟨dx, t, h1, h2⟩ := hr.gr k1
        refine MethP.own rfl h1 (cl_Round T) (mt_Round_least T) (lkn (by decide)) ?_
        have e : V.int ((m : Int) - (N : Int)) = nat (m - N) := congrArg V.int (by omega)
        show CallP _ _ _ [.ref r, .int ((m : Int) - (N : Int))] _ _ _
        rw [e]
        refine CallP.by (p_least T) (by decide) ⟨r, bs, m - N, rfl, hr.gr k1, hb, by omega, fun v H2 k2 hv => ?_⟩
        refine h _ H2 (k1.trans k2) ⟨fun q => ⟨by omega, hv.iff.mp (of_decide_eq_true q)⟩, fun q => decide_eq_true (hv.iff.mpr q.2)⟩
      · have c1 := of_decide_eq_false c
        exact h _ H1 k1 ⟨fun q => Bool.noConfusion q, fun q => by omega⟩
  obtain ⟨ds, hv, hb⟩ := FunD.binds0 (ps := ["places", "limit", "budgets", "late", "tears", "readers"]) F 3 (by intro e; cases e) rfl (fun D doc pm an cdv ct us ks h1 h2 => match us, ks, h1, h2 with
    | [_, _, _], [_, _, _], _, _ => ⟨_, _, _, _, _, _, rfl, rfl, _, _, _, _, _, _, rfl, rfl, _, _, _, _, _, _, rfl, rfl, rfl⟩)
  refine (F2.raw hb hv).imp fun vs H Q E ⟨r, bs, m, N, ev, q⟩ => ?_
  subst ev
  exact ⟨r, bs, m, N, rfl, q⟩
end
end Lw
-- of law_k56_whole_lazy_edge
namespace Lw
open PySem PySem.Spec PyProof.Rows L2 Cy Tx
theorem Wq.mono {bs : List Int} (bo : ∀ b ∈ bs, 0 ≤ b) {c c' : Nat} {q q' : Int} (h : Wq bs c q) (h1 : c ≤ c') (h2 : q' ≤ q) : Wq bs c' q' := fun f hf => by
  have := h f hf
  have := cumI_mono bo (f : Nat) h1
  omega
/-- so far found -/
structure Fnd (bs : List Int) (M i : Nat) (fs : List Nat) : Prop where
  l1 : 1 ≤ fs.length
  l2 : fs.length ≤ M + 1
  nd : ∀ k x, fs[k]? = some x → Nd bs x (k : Nat)
  end_ : fs.length = M + 1 ∨ ¬ Wq bs i (fs.length : Nat)
theorem Fnd.start {bs : List Int} (hb : 0 < bs.length) (M : Nat) : Fnd bs M 0 [0] := by
  refine ⟨Nat.le_refl _, by simp, fun k x e => ?_, .inr fun w => ?_⟩
  · cases k with
    | zero => cases e; exact ⟨fun f _ => by show ((0 : Nat) : Int) ≤ 0; omega, fun c h => absurd h (Nat.not_lt_zero _)⟩
    | succ k => cases e
  · have := w 0 hb
    have e : cumI bs ((0 : Nat) : Int) 0 = 0 := rfl
    rw [e] at this
    simp at this
theorem Fnd.stay {bs : List Int} {M i : Nat} {fs : List Nat} (h : Fnd bs M i fs) (hM : ¬ fs.length ≤ M) : Fnd bs M (i + 1) fs := ⟨h.l1, h.l2, h.nd, .inl (by have := h.l2; omega)⟩
theorem Fnd.step {bs : List Int} (bo : ∀ b ∈ bs, 0 ≤ b) {M i : Nat} {fs : List Nat} {v : Int} (h : Fnd bs M i fs) (hM : fs.length ≤ M) (hv : LeW bs (i + 1) v) (v0 : 0 ≤ v) : Fnd bs M (i + 1) (fs ++ List.replicate (min v (M : Nat) + 1 - (fs.length : Nat) : Int).toNat (i + 1)) := by
  have hnw : ¬ Wq bs i (fs.length : Nat) := by rcases h.end_ with e | e; omega; exact e
  have hlen : (fs ++ List.replicate (min v (M : Nat) + 1 - (fs.length : Nat) : Int).toNat (i + 1)).length = max fs.length (min v (M : Nat) + 1).toNat := by rw [List.length_append, List.length_replicate]; omega
  refine ⟨by rw [hlen]; have := h.l1; omega, by rw [hlen]; omega, fun k x e => ?_, ?_⟩
  · by_cases z : k < fs.length
    · rw [List.getElem?_append_left z] at e
      exact h.nd k x e
    · rw [List.getElem?_append_right (by omega), List.getElem?_replicate] at e
      split at e
      · rename_i q
        cases e
        refine ⟨hv.iff.mp (by omega), fun c' hc' w => hnw (w.mono bo (by omega) (by omega))⟩
      · cases e
  · rw [hlen]
    by_cases z : (M : Int) ≤ v
    · exact .inl (by omega)
    · refine .inr fun w => ?_
      have := hv.iff.mpr w
      omega
theorem Fnd.full {bs : List Int} (bo : ∀ b ∈ bs, 0 ≤ b) (hb : 0 < bs.length) (hs : bs.sum ≠ 0) {M : Nat} {fs : List Nat} (h : Fnd bs M (M * bs.length) fs) : fs.length = M + 1 := by
  rcases h.end_ with e | e
  · exact e
  · by_cases z : fs.length = M + 1
    · exact z
    · refine absurd (fun f hf => ?_) e
      have := turns_sum hb (f : Nat) M 0
      rw [Nat.add_zero] at this
      rw [this]
      have h1 := sum_nn' bo
      have h2 : (1 : Int) * (M : Int) ≤ bs.sum * (M : Int) := Int.mul_le_mul_of_nonneg_right (by omega) (by omega)
      have h3 : (M : Int) * bs.sum = bs.sum * (M : Int) := Int.mul_comm _ _
      have h4 : cumI bs (f : Nat) 0 = 0 := rfl
      have := h.l2
      omega
section
variable {g : Wd} {j : Nat} {H : Hp}
def spReas : Sp := fun vs H Q _ => ∃ (pp : Addr) (bs : List Int) (M : Nat), vs = [.ref pp, nat M] ∧ H pp = some (.lst (bs.map V.int)) ∧ BsOk bs ∧ bs.sum ≠ 0 ∧ M ≤ 100 ∧ ∀ (p : Addr) (fs : List Nat) H', Gr H H' → fs.length = M + 1 → (∀ k x, fs[k]? = some x → Nd bs x (k : Nat)) → H' p = some (.lst (fs.map nat)) → Q (.ref p) H'
theorem p_reas (T : Top g) : FnG g 2 (gad g.K "_law_reaches") spReas := fk__law_reaches T 0 fun vs H Q E ⟨pp, bs, M, ev, hpp, bo, hsum, hM, h⟩ => by
  subst ev
  have l1 := bo.l1
  have l12 := bo.l2
  refine ⟨rfl, (by decide : 1 ≤ sizeLine), fun fp hfp => ?_⟩
  dsimp only [gName]
  have k0 : Gr H (upd H fp (.lst [.int 0])) := Gr.new hfp
  have e0 : upd H fp (.lst [.int 0]) fp = some (.lst (([0] : List Nat).map nat)) := upd_same
  revert k0 e0
  generalize upd H fp (.lst [.int 0]) = H0
  intro k0 e0
  refine SeqP.l rfl (.of (k0 _ _ hpp)) fun D hD => ?_
  refine lc_lst (.of (k0 _ _ hpp)) (by rw [List.length_map, sizeLine_eq]; omega) hD (fun _ => some (.int 0)) (fun a ha H2 R k hR => ⟨rfl, hR _ Gr.refl⟩) (fun H2 k e => ?_)
  have e00 : (bs.map V.int).filterMap (fun _ => some (V.int 0)) = (winL bs 0).map V.int := by
    rw [filterMap_all, List.map_map]
    unfold winL
    rw [List.map_map]
    refine List.ext_getElem? fun i => ?_
    rw [List.getElem?_map, List.getElem?_map]
    by_cases hi : i < bs.length
    · simp [hi]; rfl
    · simp [hi]
  rw [e00] at e
  dsimp only [gName]
  refine LenP.l (.of (k _ _ (k0 _ _ hpp))) ?_
  rw [List.length_map]
  have hNl : M * bs.length ≤ 1200 := Nat.le_trans (Nat.mul_le_mul hM l12) (by decide)
  have eN : (M : Int) * (bs.length : Int) = ((M * bs.length : Nat) : Int) := by rw [Int.natCast_mul]
  refine ⟨?_, _, rfl, by rw [eN]; omega, by rw [eN]; omega, ?_⟩
  · show (M : Int).natAbs.log2 + (bs.length : Int).natAbs.log2 < 1000000
    have h1 := log2_lt (n := (M : Int).natAbs) (k := 11) (by decide) (by omega)
    have h2 := log2_lt (n := (bs.length : Int).natAbs) (k := 11) (by decide) (by omega)
    omega
  have en : ((M : Int) * (bs.length : Int)).toNat = M * bs.length := by rw [eN]; omega
  rw [en]
  refine for_range (fun i σ H' => Gr H H' ∧ ∃ (q fp : Addr) (fs : List Nat) (o1 o2 o3 : Option V), H' q = some (.lst ((winL bs i).map V.int)) ∧ H' fp = some (.lst (fs.map nat)) ∧ Fnd bs M i fs ∧ σ = [some (.ref pp), some (nat M), some (.ref fp), some (.ref q), o1, o2, o3])
    ⟨k0.trans k, D, fp, [0], none, none, none, e, k _ _ e0, Fnd.start l1 M, rfl⟩ ?_ ?_
  · rintro i σ H3 hi ⟨k3, q, fp, fs, o1, o2, o3, eq, ef, fd, rfl⟩
    have hpp3 := k3 _ _ hpp
    refine LenP.l (.of hpp3) ?_
    rw [List.length_map]
    refine ⟨_, rfl, by omega, by omega, fun D2 hD2 => ?_⟩
    have en : ((bs.length : Nat) : Int).toNat = bs.length := by omega
    rw [en]
    refine lc_rng (by rw [sizeLine_eq]; omega) hD2 (fun a => some (.int (cumI bs (a : Nat) (i + 1)))) (fun a ha H4 R k4 hR => ?_) (fun H4 k4 e4 => ?_)
    · refine ⟨rfl, ?_⟩
      have hq4 := k4 _ _ eq
      refine IxR'.l (.of hq4) (v := .int (cumI bs (a : Nat) i)) (at_of (j := a) (by omega) (by unfold winL; simp [ha])) ?_
      refine LenP.l (.of (k4 _ _ hpp3)) ?_
      rw [List.length_map]
      refine ⟨by omega, IxR'.l (.of (k4 _ _ hpp3)) (bat_at l1 _) ?_⟩
      have := hR H4 Gr.refl
      rw [show (0 : Int) + (a : Nat) + (0 + (i : Nat)) = (a : Nat) + (i : Nat) by omega]
      exact this
    · rw [filterMap_all] at e4
      have e5 : H4 D2 = some (.lst ((winL bs (i + 1)).map V.int)) := by
        rw [e4]
        unfold winL
        rw [List.map_map]
        rfl
      have k34 := k3.trans k4
      dsimp only [gName]
      refine LenP.l (.of (k4 _ _ ef)) ?_
      rw [List.length_map]
      refine ite_i (fun c => ?_) (fun c => ?_)
      · have c1 := of_decide_eq_true c
        have c2 : fs.length ≤ M := by omega
        refine ⟨(by decide : 1 ≤ sizeLine), fun q1 hq1 => ?_⟩
        have k5 : Gr H4 (upd H4 q1 (.lst [.int (0 + (i : Nat) + 1)])) := Gr.new hq1
        refine MnP.l (.of (k5 _ _ e5)) (by unfold winL; rw [List.length_map, List.length_range]; exact l1) fun v hv hmin => ?_
        refine LenP.l (.of (k5 _ _ (k4 _ _ ef))) ?_
        rw [List.length_map]
        have lw : LeW bs (i + 1) v := ⟨hv, hmin⟩
        have v0 : 0 ≤ v := by
          obtain ⟨f, hf, e⟩ := mem_win.mp hv
          rw [← e]
          exact cumI_nn bo.nn _ _
        refine MulR.lst [.int (0 + (i : Nat) + 1)] upd_same (by have := fd.l2; omega) (by omega) (by show 1 * _ ≤ _; rw [sizeLine_eq]; omega) fun q2 hq2 => ?_
        have efl : (List.replicate (min v (M : Nat) + 1 - (fs.length : Nat) : Int).toNat [V.int (0 + (i : Nat) + 1)]).flatten = (List.replicate (min v (M : Nat) + 1 - (fs.length : Nat) : Int).toNat (i + 1)).map nat := by
          have e6 : V.int (0 + (i : Nat) + 1) = nat (i + 1) := congrArg V.int (by omega)
          rw [e6]
          generalize (min v (M : Nat) + 1 - (fs.length : Nat) : Int).toNat = n
          induction n with
          | zero => rfl
          | succ n ih => rw [List.replicate_succ, List.flatten_cons, ih, List.replicate_succ]; rfl
        have k6 := k5.trans (Gr.new (o := .lst (List.replicate (min v (M : Nat) + 1 - (fs.length : Nat) : Int).toNat [V.int (0 + (i : Nat) + 1)]).flatten) hq2)
        refine AddR.lst (fs.map nat) ((List.replicate (min v (M : Nat) + 1 - (fs.length : Nat) : Int).toNat (i + 1)).map nat) (k6 _ _ (k4 _ _ ef)) (by rw [← efl]; exact upd_same) (by rw [List.length_map, List.length_map, List.length_replicate, sizeLine_eq]; have := fd.l2; omega) fun q3 hq3 => ?_
        refine ⟨k34.trans (k6.trans (Gr.new hq3)), D2, q3, _, _, _, _, (Gr.new hq3) _ _ (k6 _ _ e5), ?_, fd.step bo.nn c2 lw v0, rfl⟩
        rw [upd_same, List.map_append]
      · have c1 := of_decide_eq_false c
        exact ⟨k34, D2, fp, fs, _, _, _, e5, k4 _ _ ef, fd.stay (by omega), rfl⟩
  · rintro σ H3 ⟨k3, q, fp, fs, o1, o2, o3, eq, ef, fd, rfl⟩
    exact h fp fs H3 k3 (fd.full bo.nn l1 hsum) fd.nd ef
def spNeed : Sp := fun vs H Q _ => ∃ (pp : Addr) (bs : List Int) (N : Nat), vs = [.ref pp, nat N] ∧ H pp = some (.lst (bs.map V.int)) ∧ BsOk bs ∧ 1 ≤ N ∧ N ≤ 100 ∧ ∀ v H', Gr H H' → NdV bs ((N : Int) - 1) v → Q v H'
theorem p_need (T : Top g) : FnG g 4 (gad g.K "_law_need") spNeed := fk__law_need T 2 fun vs H Q E ⟨pp, bs, N, ev, hpp, bo, n1, n2, h⟩ => by
  subst ev
  refine ⟨rfl, ite_i (fun c => ?_) (fun c => ?_)⟩
  · have c1 := dt0 c
    refine h (nat 0) H Gr.refl (.inr ⟨0, rfl, ⟨fun f _ => ?_, fun c' h => absurd h (Nat.not_lt_zero _)⟩⟩)
    show (N : Int) - 1 ≤ 0
    omega
  have c1 := df0 c
  refine SumP.l (.of hpp) ?_
  refine ite_i (fun c => ?_) (fun c => ?_)
  · have c2 := dt0 c
    refine h .non H Gr.refl (.inl ⟨rfl, fun c' w => ?_⟩)
    have := w 0 bo.l1
    rw [cum_zero (sum_zero bo.nn c2)] at this
    omega
  have c2 := df0 c
  have e : V.int ((N : Int) - 1) = nat (N - 1) := congrArg V.int (by omega)
  show CallP _ _ _ [.ref pp, .int ((N : Int) - 1)] _ _ _
  rw [e]
  refine CallP.by (p_reas T) (by decide) ⟨pp, bs, N - 1, rfl, hpp, bo, c2, by omega, fun p fs H1 k1 lf nd hp => ?_⟩
  have hl : N - 1 < fs.length := by omega
  refine IxR'.l (.of hp) (v := nat fs[N - 1]) (at_of (j := N - 1) (by omega) (by simp [hl])) ?_
  have nd1 := nd (N - 1) fs[N - 1] (by simp [hl])
  have e2 : ((N - 1 : Nat) : Int) = (N : Int) - 1 := by omega
  rw [e2] at nd1
  exact h _ H1 k1 (.inr ⟨_, rfl, nd1⟩)
def spGoes2 : Sp := fun vs H Q _ => ∃ (pp : Addr) (bs : List Int) (N m : Nat), vs = [.ref pp, nat N, nat m] ∧ H pp = some (.lst (bs.map V.int)) ∧ BsOk bs ∧ 1 ≤ N ∧ N ≤ 100 ∧ m ≤ 1000 ∧ ∀ (b : Bool) H', Gr H H' → (b = true ↔ (N ≤ m ∧ Wq bs (m - N) ((N : Int) - 1))) → Q (.bl b) H'
theorem p_goes2 (T : Top g) : FnG g 6 (gad g.K "_law_goes") spGoes2 := fk__law_goes T 4 fun vs H Q E ⟨pp, bs, N, m, ev, hpp, bo, n1, n2, m2, h⟩ => by
  subst ev
  refine ⟨rfl, CallP.by (p_need T) (by decide) ⟨pp, bs, N, rfl, hpp, bo, n1, n2, fun v H1 k1 hv => ?_⟩⟩
  dsimp only [gName]
  rcases hv with ⟨rfl, no⟩ | ⟨c, rfl, nd⟩
  · exact h false H1 k1 ⟨fun q => Bool.noConfusion q, fun q => absurd q.2 (no _)⟩
  · refine h _ H1 k1 ⟨fun q => ?_, fun q => decide_eq_true ?_⟩
    · have := of_decide_eq_true q
      exact ⟨by omega, nd.ok.mono bo.nn (by omega) (Int.le_refl _)⟩
    · have : c ≤ m - N := Nat.not_lt.mp fun z => nd.min _ z q.2
      omega
end
end Lw
-- of law_k56_whole_lazy_edge
namespace Lw
open PySem PySem.Spec PyProof.Rows L2 Cy Tx
section
variable {g : Wd} {j : Nat} {H : Hp}
def spRais2 : Sp := fun vs H Q _ => ∃ (pp : Addr) (bs : List Int) (N m : Nat), vs = [.ref pp, nat N, nat m] ∧ H pp = some (.lst (bs.map V.int)) ∧ BsU bs 20 ∧ 1 ≤ N ∧ N ≤ 12 ∧ m ≤ 1000 ∧ ∀ (p : Addr) (bs' : List Int) H', Gr H H' → H' p = some (.lst (bs'.map V.int)) → BsOk bs' → (p = pp ∨ H p = none) → Q (.ref p) H'
theorem p_rais2 (T : Top g) : FnG g 8 (gad g.K "_law_raised") spRais2 := fk__law_raised T 6 fun vs H Q E ⟨pp, bs, N, m, ev, hpp, bu, n1, hN, hm, h⟩ => by
  subst ev
  have l12 := bu.l2
  have l1 := bu.l1
  refine ⟨rfl, LenP.l (.of hpp) ?_⟩
  rw [List.length_map]
  have hNl : N * bs.length ≤ 144 := Nat.le_trans (Nat.mul_le_mul hN l12) (by decide)
  have eN : (N : Int) * (bs.length : Int) = ((N * bs.length : Nat) : Int) := by rw [Int.natCast_mul]
  refine ⟨?_, _, rfl, by rw [eN]; omega, by rw [eN]; omega, ?_⟩
  · show (N : Int).natAbs.log2 + (bs.length : Int).natAbs.log2 < 1000000
    have h1 := log2_lt (n := (N : Int).natAbs) (k := 11) (by decide) (by omega)
    have h2 := log2_lt (n := (bs.length : Int).natAbs) (k := 11) (by decide) (by omega)
    omega
  have en : ((N : Int) * (bs.length : Int)).toNat = N * bs.length := by rw [eN]; omega
  rw [en]
  refine for_range (fun i σ H' => Gr H H' ∧ ∃ (p : Addr) (bs' : List Int) (o1 o2 : Option V), H' p = some (.lst (bs'.map V.int)) ∧ BsU bs' (20 + i) ∧ (p = pp ∨ H p = none) ∧ σ = [some (.ref p), some (nat N), some (nat m), o1, o2]) ⟨Gr.refl, pp, bs, none, none, hpp, ⟨bu.l1, bu.l2, fun b hb => by have := bu.nn b hb; omega⟩, .inl rfl, rfl⟩ ?_ ?_
  · rintro i σ H2 hi ⟨k2, p, bs', o1, o2, hp, bu', fr, rfl⟩
    have stay : ∀ {H3 : Hp}, Gr H2 H3 → Gr H H3 ∧ ∃ (p : Addr) (bs' : List Int) (o1 o2 : Option V), H3 p = some (.lst (bs'.map V.int)) ∧ BsU bs' (20 + (i + 1 : Nat)) ∧ (p = pp ∨ H p = none) ∧ [some (V.ref p), some (nat N), some (nat m), some (.int (0 + (i : Nat))), o2] = [some (.ref p), some (nat N), some (nat m), o1, o2] := fun k3 => ⟨k2.trans k3, p, bs', _, o2, k3 _ _ hp, ⟨bu'.l1, bu'.l2, fun b hb => by have := bu'.nn b hb; omega⟩, fr, rfl⟩
    refine ite_i (fun c => ?_) (fun c => ?_)
    · refine CallP.by (p_goes2 T) (by decide) ⟨p, bs', N, m, rfl, hp, bu'.ok (by omega), n1, by omega, by omega, fun b H3 k3 _ => ?_⟩
      refine ite_i (fun c2 => ?_) (fun c2 => ⟨(stay k3).1, p, bs', some (.int (0 + (i : Nat))), o2, k3 _ _ hp, ⟨bu'.l1, bu'.l2, fun b hb => by have := bu'.nn b hb; omega⟩, fr, rfl⟩)
      refine LenP.l (.of (k3 _ _ hp)) ?_
      rw [List.length_map]
      have hl' := bu'.l1
      refine ⟨by omega, ?_⟩
      have l12' := bu'.l2
      obtain ⟨f, hf, ef⟩ := mod_f (bs := bs') hl' (0 + (i : Nat))
      dsimp only [gName]
      rw [ef]
      obtain ⟨lA, eA, _, mA⟩ := cut_map bs' none (some (f : Int))
      obtain ⟨lB, eB, _, mB⟩ := cut_map bs' (some ((f : Int) + 1)) none
      have eA2 : lA = bs'.take f := by
        have : cutV (bs'.map V.int) none (some (f : Int)) = (bs'.take f).map V.int := by
          unfold cutV
          rw [HT.sIx_none, HT.sIx_nat, List.drop_zero, Nat.sub_zero, List.length_map, Nat.min_eq_left (by omega), List.map_take]
        rw [this] at eA
        exact (map_int_inj eA).symm
      have eB2 : lB = bs'.drop (f + 1) := by
        have : cutV (bs'.map V.int) (some ((f : Int) + 1)) none = (bs'.drop (f + 1)).map V.int := by
          rw [show (f : Int) + 1 = ((f + 1 : Nat) : Int) by omega]
          unfold cutV
          rw [HT.sIx_none, HT.sIx_nat, List.length_map, Nat.min_eq_left (by omega), List.map_drop]
          exact List.take_of_length_le (by rw [List.length_drop, List.length_map]; exact Nat.le_refl _)
        rw [this] at eB
        exact (map_int_inj eB).symm
      have hp3 := k3 _ _ hp
      refine SlP.l (.of hp3) fun q1 hq1 => ?_
      rw [eA]
      have k4 : Gr H3 (upd H3 q1 (.lst (lA.map V.int))) := Gr.new hq1
      refine IxR'.l (.of (k4 _ _ hp3)) (v := .int bs'[f]) (at_of (j := f) rfl (by simp [hf])) ?_
      refine ⟨(by decide : 1 ≤ sizeLine), fun q2 hq2 => ?_⟩
      have k5 := k4.trans (Gr.new (o := .lst [.int (bs'[f] + 1)]) hq2)
      refine AddR.lst (lA.map V.int) [.int (bs'[f] + 1)] ((Gr.new hq2) _ _ upd_same) upd_same (by rw [List.length_map, eA2, List.length_take, sizeLine_eq]; simp; omega) fun q3 hq3 => ?_
      have k6 := k5.trans (Gr.new (o := .lst (lA.map V.int ++ [.int (bs'[f] + 1)])) hq3)
      refine SlP.l (.of (k6 _ _ hp3)) fun q4 hq4 => ?_
      rw [eB]
      have k7 := k6.trans (Gr.new (o := .lst (lB.map V.int)) hq4)
      refine AddR.lst (lA.map V.int ++ [.int (bs'[f] + 1)]) (lB.map V.int) ((Gr.new hq4) _ _ upd_same) upd_same (by rw [List.length_append, List.length_map, List.length_map, eA2, eB2, List.length_take, List.length_drop, sizeLine_eq]; simp; omega) fun q5 hq5 => ?_
      have k8 := k7.trans (Gr.new (o := .lst (lA.map V.int ++ [.int (bs'[f] + 1)] ++ lB.map V.int)) hq5)
      refine ⟨(k2.trans k3).trans k8, q5, lA ++ [bs'[f] + 1] ++ lB, some (.int (0 + (i : Nat))), some (.int (f : Int)), ?_, ⟨?_, ?_, ?_⟩, .inr ?_, rfl⟩
      · rw [upd_same, List.map_append, List.map_append]; rfl
      · rw [List.length_append, List.length_append, eA2, eB2, List.length_take, List.length_drop]; simp; omega
      · rw [List.length_append, List.length_append, eA2, eB2, List.length_take, List.length_drop]; simp; omega
      · intro b hb
        rcases List.mem_append.mp hb with hb | hb
        · rcases List.mem_append.mp hb with hb | hb
          · have := bu'.nn b (mA b hb); omega
          · rw [List.mem_singleton] at hb
            have := bu'.nn bs'[f] (List.getElem_mem hf)
            omega
        · have := bu'.nn b (mB b hb); omega
      · have kk := (k2.trans k3).trans k7
        cases q : H q5 with
        | none => rfl
        | some o => rw [kk _ _ q] at hq5; cases hq5
    · refine ite_i (fun z => Bool.noConfusion z) (fun _ => ⟨k2, p, bs', some (.int (0 + (i : Nat))), o2, hp, ⟨bu'.l1, bu'.l2, fun b hb => by have := bu'.nn b hb; omega⟩, fr, rfl⟩)
  · rintro σ H2 ⟨k2, p, bs', o1, o2, hp, bu', fr, rfl⟩
    exact h p bs' H2 k2 hp (bu'.ok (by omega)) fr
def spPays (g : Wd) : Sp := fun vs H Q _ => ∃ (sc b : Addr) (most n : Int) (ns : List Int), vs = [.ref sc, .ref b, .int most] ∧ Dr g H sc b n ns ∧ n ≤ 10 ^ 8 ∧ 1 ≤ most ∧ most ≤ 12 ∧ ∀ (p : Addr) (bs : List Int) (H' : Hp), BsU bs 20 → H p = none → Gx b H H' → Dr g H' sc b (n + 40) ns → H' p = some (.lst (bs.map V.int)) → Q (.ref p) H'
theorem p_pays (T : Top g) : FnG g 4 (gad g.K "_law_pays") (spPays g) := fk__law_pays T 2 fun vs H Q E ⟨sc, b, most, n, ns, ev, D, hn, hm1, hm2, h⟩ => by
  subst ev
  refine ⟨rfl, (by decide : 0 ≤ sizeLine), fun p hp => ?_⟩
  have pb := D.nb hp
  obtain ⟨_, _, D0⟩ := D.al (o := .lst []) hp
  have k0 : Gx b H (upd H p (.lst [])) := Gx.gr (Gr.new hp)
  dsimp only [gName]
  have e0 : upd H p (.lst []) p = some (.lst (([] : List Int).map V.int)) := upd_same
  revert D0 k0 e0
  generalize upd H p (.lst []) = H0
  intro D0 k0 e0
  refine t_take T D0 (by decide) (by omega) (by omega) (by omega) fun d H1 d0 d1 k1 D1 => ?_
  refine ⟨_, rfl, by omega, by omega, ?_⟩
  refine for_range (fun i σ H' => Gx b H H' ∧ Dr g H' sc b (n + 1 + 2 * i) ns ∧ (∃ bs : List Int, bs.length = i ∧ (∀ x ∈ bs, 0 ≤ x ∧ x ≤ 20) ∧ H' p = some (.lst (bs.map V.int))) ∧ ∃ o1 o2, σ = [some (.ref sc), some (.ref b), some (.int most), some (.ref p), o1, o2])
    ⟨k0.trans k1, by simpa using D1, ⟨[], rfl, fun x hx => (by cases hx), k1 _ _ pb e0⟩, none, none, rfl⟩ ?_ ?_
  · rintro i σ H' hi ⟨k2, D2, ⟨bs, lb, bx, e2⟩, o1, o2, rfl⟩
    have hi' : (i : Int) < 12 := by omega
    refine t_pick T (l := [2, 3, 4, 6]) D2 (by decide) (by omega) (by decide) (by decide) fun v H3 hv k3 D3 => ?_
    have hv2 : 0 < v ∧ v ≤ 12 := by
      simp only [List.mem_cons, List.not_mem_nil, or_false] at hv
      rcases hv with rfl | rfl | rfl | rfl <;> decide
    have e3 := k3 _ _ pb e2
    refine IsLst.by rfl (.of e3) ?_
    refine t_take T D3 (by decide) (by omega) hv2.1 (by have := hv2.2; omega) fun d3 H5 d30 d31 k5 D5 => ?_
    have e5 := k5 _ _ pb e3
    refine AppP.by e5 (by rw [List.length_map, sizeLine_eq]; omega) ?_
    refine ⟨gx_upd ((k2.trans k3).trans k5) hp, (D5.up pb ((k2.trans k3).trans k5) D.sc hp).mono (by omega), ⟨bs ++ [d3], by rw [List.length_append, lb]; rfl, ?_, by rw [List.map_append]; exact upd_same⟩, _, _, rfl⟩
    intro x hx
    rcases List.mem_append.mp hx with hx | hx
    · exact bx x hx
    · rw [List.mem_singleton] at hx
      subst hx
      omega
  · rintro σ H' ⟨k2, D2, ⟨bs, lb, bx, e2⟩, o1, o2, rfl⟩
    exact h p bs H' ⟨by omega, by omega, bx⟩ hp k2 (D2.mono (by omega)) e2
def spLevs (g : Wd) : Sp := fun vs H Q _ => ∃ (sc b : Addr) (v : V) (m : Nat) (n : Int) (ns : List Int), vs = [.ref sc, .ref b, v, nat m] ∧ (v = .non ∨ ∃ c : Nat, v = nat c ∧ c ≤ 100000) ∧ Dr g H sc b n ns ∧ n ≤ 10 ^ 8 ∧ m ≤ 1000 ∧ ∀ (p : Addr) (ls : List Nat) (H' : Hp), ls.length ≤ 4 → 0 < ls.length → (∀ l ∈ ls, l ≤ 200000) → (∃ o, H' b = some o) → Gx b H H' → H' p = some (.lst (ls.map nat)) → Q (.ref p) H'
theorem p_levs (T : Top g) : FnG g 4 (gad g.K "_law_levels") (spLevs g) := fk__law_levels T 2 fun vs H Q E ⟨sc, b, v, m, n, ns, ev, hv, D, hn, hm, h⟩ => by
  subst ev
  rcases hv with rfl | ⟨c, rfl, hc⟩
  · refine ⟨rfl, t_take T D (by decide) (by omega) (by omega) (by omega) fun d H1 d0 d1 k1 D1 => ?_⟩
    refine ⟨(by decide : 3 ≤ sizeLine), fun p hp => ?_⟩
    have := h p [d.toNat, m + 1, 0] _ (by simp) (by simp) (fun l hl => by
      simp only [List.mem_cons, List.not_mem_nil, or_false] at hl
      omega) (by obtain ⟨o, z⟩ := D1.bx.some; exact ⟨o, (Gr.new hp) _ _ z⟩) (k1.trans (Gx.gr (Gr.new (o := .lst [.int d, .int ((m : Int) + 1), .int 0]) hp)))
    refine this ?_
    rw [upd_same]
    have e : ((d.toNat : Nat) : Int) = d := by omega
    exact congrArg (fun x : Int => some (HO.lst [V.int x, V.int ((m : Int) + 1), V.int 0])) e.symm
  · refine ⟨rfl, ?_⟩
    refine seq_cutR (fun σ' H' => H' = H ∧ σ' = [some (.ref sc), some (.ref b), some (nat c), some (nat m), none]) (fun N' hN => hN _ _ ⟨rfl, rfl⟩) ?_
    rintro σ' H0 ⟨rfl, rfl⟩
    refine seq_cutR (fun σ' H' => Gx b H0 H' ∧ (∃ o, H' b = some o) ∧ ∃ x : Nat, x ≤ 200000 ∧ σ' = [some (.ref sc), some (.ref b), some (nat c), some (nat m), some (nat x)]) (fun N' hN => ?_) ?_
    · refine t_take T D (by decide) (by omega) (by decide) (by decide) fun d H1 d0 d1 k1 D1 => ?_
      have key := hN [some (.ref sc), some (.ref b), some (nat c), some (nat m), some (nat (max 0 ((c : Int) + d - 2)).toNat)] H1 ⟨k1, D1.bx.some, _, by omega, rfl⟩
      have e : (((max 0 ((c : Int) + d - 2)).toNat : Nat) : Int) = max 0 ((c : Int) + d - 2) := by omega
      have e2 : nat (max 0 ((c : Int) + d - 2)).toNat = V.int (max 0 ((c : Int) + d - 2)) := congrArg V.int e
      rw [e2] at key
      exact key
    · rintro σ' H1 ⟨k1, ⟨ob, zb⟩, x, hx, rfl⟩
      refine ⟨(by decide : 4 ≤ sizeLine), fun p hp => ?_⟩
      refine h p [x, c, c - 1, x] _ (by simp) (by simp) (fun l hl => by
        simp only [List.mem_cons, List.not_mem_nil, or_false] at hl
        omega) ⟨ob, (Gr.new hp) _ _ zb⟩ (k1.trans (Gx.gr (Gr.new hp))) ?_
      rw [upd_same]
      have e : ((c - 1 : Nat) : Int) = max 0 ((c : Int) - 1) := by omega
      exact congrArg (fun y : Int => some (HO.lst [nat x, nat c, V.int y, nat x])) e.symm
def spEdge (g : Wd) : Sp := fun vs H Q _ => ∃ (r pp : Addr) (bs : List Int) (m N : Nat), vs = [.ref r, .ref pp, nat N, nat m] ∧ RoundAt g H r bs ∧ H pp = some (.lst (bs.map V.int)) ∧ BsOk bs ∧ 1 ≤ N ∧ N ≤ 100 ∧ 1 ≤ m ∧ m ≤ 1000 ∧ ∀ H', Gr H H' → Q (.bl true) H'
theorem p_edge (T : Top g) : FnG g 12 (gad g.K "_law_edge") (spEdge g) := fk__law_edge T 10 fun vs H Q E ⟨r, pp, bs, m, N, ev, hr, hpp, bo, n1, n2, m1, m2, h⟩ => by
  subst ev
  refine ⟨rfl, CallP.by (p_need T) (by decide) ⟨pp, bs, N, rfl, hpp, bo, n1, n2, fun v H1 k1 hv => ?_⟩⟩
  dsimp only [gName]
  refine CallP.by (p_lfree T) (by decide) ⟨r, bs, N, rfl, hr.gr k1, bo, n1, by omega, fun v2 H2 k2 hv2 => ?_⟩
  have ev : v2 = v := by
    rcases hv with ⟨rfl, no⟩ | ⟨c, rfl, nd⟩
    · rcases hv2 with ⟨rfl, _⟩ | ⟨c2, rfl, nd2⟩
      · rfl
      · exact absurd nd2.ok (no _)
    · rcases hv2 with ⟨rfl, no⟩ | ⟨c2, rfl, nd2⟩
      · exact absurd nd.ok (no _)
      · rw [nd.uniq nd2]
  subst ev
  dsimp only [gName]
  have k12 := k1.trans k2
  have tail : ∀ H3, Gr H H3 → CallP g 10 (gad g.K "ring_goes_on") [nat m, nat N, .ref r] H3 (fun x H4 => CallP g 10 (gad g.K "_law_goes") [.ref pp, nat N, nat m] H4 (fun y H5 => cEqN g.K false x y H5 Q) (fun cls d H' => E cls d H')) (fun cls d H' => E cls d H') := fun H3 k3 => by
    refine CallP.by (p_rgo T) (by decide) ⟨r, bs, m, N, rfl, hr.gr k3, bo, m1, by omega, n1, by omega, fun b1 H4 k4 e1 => ?_⟩
    refine CallP.by (p_goes2 T) (by decide) ⟨pp, bs, N, m, rfl, k4 _ _ (k3 _ _ hpp), bo, n1, n2, m2, fun b2 H5 k5 e2 => ?_⟩
    have e : b1 = b2 := by rw [Bool.eq_iff_iff, e1, e2]
    subst e
    have hh := h _ ((k3.trans k4).trans k5)
    have e3 : (false != decide (b1 = b1)) = true := by simp
    show Q (.bl (false != decide (b1 = b1))) H5
    rw [e3]
    exact hh
  rcases hv with ⟨rfl, no⟩ | ⟨c, rfl, nd⟩
  · exact tail _ k12
  · refine sif (fun b H3 => H3 = H2 ∧ b = false) (fun K hK => ?_) ?_
    · exact hK _ _ ⟨rfl, rfl⟩
    · rintro b H3 ⟨rfl, rfl⟩
      refine ite_i (fun z => Bool.noConfusion z) (fun _ => ?_)
      dsimp only [tNext]
      refine sif (fun b H4 => H4 = H3 ∧ b = false) (fun K hK => ?_) ?_
      · refine CallP.by (p_isc T) (by decide) ⟨_, rfl, ?_⟩
        refine ite_i (fun z => Bool.noConfusion z) (fun _ => ?_)
        have e3 : (true != decide (((c : Nat) : Int) = ((c : Nat) : Int))) = false := by simp
        show K (true != decide (((c : Nat) : Int) = ((c : Nat) : Int))) _
        rw [e3]
        exact hK _ _ ⟨rfl, rfl⟩
      · rintro b H4 ⟨rfl, rfl⟩
        refine ite_i (fun z => Bool.noConfusion z) (fun _ => ?_)
        exact tail _ k12
end
end Lw
-- of law_k56_whole_lazy_edge
namespace Lw
open PySem PySem.Spec PyProof.Rows L2 Cy Tx
section
variable {g : Wd} {j : Nat} {H : Hp}
theorem cLz_mod (bs : List Int) (m R : Nat) (z : Str) (k : Nat) : cLz bs m R z (k % bs.length) = cLz bs m R z k := by
  unfold cLz mostN mostA bat
  rw [Int.natCast_emod, Int.emod_emod_of_dvd _ (Int.dvd_refl _)]
def spAmt : Sp := fun vs H Q _ => ∃ (R m k : Nat) (z : Str) (pp : Addr) (bs : List Int), vs = [nat R, .str z, nat m, .ref pp, nat k] ∧ H pp = some (.lst (bs.map V.int)) ∧ BsOk bs ∧ z.length ≤ m ∧ m ≤ 1000 ∧ Q (nat (cLz bs m R z k)) H
theorem p_amt (T : Top g) : FnG g 2 (gad g.K "_law_amount") spAmt := fk__law_amount T 0 fun vs H Q E ⟨R, m, k, z, pp, bs, ev, hpp, bo, le, m2, h⟩ => by
  subst ev
  have l1 := bo.l1
  refine ⟨rfl, sif (fun b H2 => H2 = H ∧ (b = true → cLz bs m R z k = 0) ∧ (b = false → z.length ≠ m ∧ ¬ R + z.length < m)) (fun K hK => ?_) ?_⟩
  · refine ⟨ml (by omega), ite_i (fun c => ?_) (fun c => ?_)⟩
    · have c1 := dt0 c
      exact hK _ _ ⟨rfl, fun _ => (cLz_le bs m R).full z k (by omega), fun e => Bool.noConfusion e⟩
    · have c1 := df0 c
      refine ⟨ml (by omega), ?_⟩
      refine hK _ _ ⟨rfl, fun e => ?_, fun e => ⟨by omega, ?_⟩⟩
      · have := of_decide_eq_true e
        unfold cLz
        rw [if_pos (by omega)]
      · have := of_decide_eq_false e
        omega
  · rintro b H2 ⟨rfl, t1, t2⟩
    refine ite_i (fun e => ?_) (fun e => ?_)
    · have := t1 e
      rw [this] at h
      exact h
    · obtain ⟨a1, a2⟩ := t2 e
      dsimp only [tNext]
      refine LenP.l (.of hpp) ?_
      rw [List.length_map]
      refine ⟨by omega, IxR'.l (.of hpp) (bat_at l1 _) ?_⟩
      have e2 : ((cLz bs m R z k : Nat) : Int) = min (bat bs (k : Nat)) (Txt.count z "1") := by
        unfold cLz
        rw [if_neg a2, mostN_int bo.nn]
        unfold mostA
        rw [if_neg (by omega)]
      have e3 : nat (cLz bs m R z k) = V.int (min (bat bs (k : Nat)) (Txt.count z "1")) := congrArg V.int e2
      rw [e3] at h
      exact h
def spPlay2 : Sp := fun vs H Q _ => ∃ (mp pp : Addr) (mvs : List Mv) (R m N : Nat) (bs : List Int), vs = [nat R, .ref mp, nat m, nat N, .ref pp] ∧ H mp = some (.lst (mvs.map mvV)) ∧ mvs.length ≤ 200000 ∧ MvsOk N 0 mvs ∧ N ≤ m ∧ 1 ≤ N ∧ m ≤ 1000 ∧ H pp = some (.lst (bs.map V.int)) ∧ BsOk bs ∧
  ∀ q H', Gr H H' → H' q = some (.lst ((plG (cLz bs m R) m bs.length ("", 0) mvs).map V.str)) → Q (.ref q) H'
theorem p_play2 (T : Top g) : FnG g 4 (gad g.K "_law_play") spPlay2 := fk__law_play T 2 fun vs H Q E ⟨mp, pp, mvs, R, m, N, bs, ev, hmp, lm, mo, nm, n1, m2, hpp, bo, h⟩ => by
  subst ev
  refine ⟨rfl, (by decide : 0 ≤ sizeLine), fun q hq => ?_⟩
  dsimp only [gName]
  have k0 : Gr H (upd H q (.lst [])) := Gr.new hq
  have e0 : upd H q (.lst []) q = some (.lst (([] : List Str).map V.str)) := upd_same
  revert k0 e0
  generalize upd H q (.lst []) = H0
  intro k0 e0
  have l1 := bo.l1
  have hc := cLz_le bs m R
  refine LenP.l (.of (k0 _ _ hmp)) ?_
  rw [List.length_map]
  refine ⟨_, rfl, by omega, by omega, ?_⟩
  have en : ((mvs.length : Nat) : Int).toNat = mvs.length := by omega
  rw [en]
  obtain ⟨w0, c0⟩ := pok_nil (m := m) (N := N) (by omega) m2 n1
  refine for_range (fun i σ H' => Gr H H' ∧ ∃ (s : Sd) (ws : List Str) (o1 : Option V), GdS m N bs.length s ∧ s.2 = i % bs.length ∧ MvsOk N (dep s.1).length (mvs.drop i) ∧ ws.length = i ∧ plG (cLz bs m R) m bs.length ("", 0) mvs = ws ++ plG (cLz bs m R) m bs.length s (mvs.drop i) ∧ H' q = some (.lst (ws.map V.str)) ∧ σ = [some (nat R), some (.ref mp), some (nat m), some (nat N), some (.ref pp), some (.str s.1), some (.ref q), o1])
    ⟨k0, ("", 0), [], none, ⟨w0, l1⟩, (Nat.zero_mod _).symm, by rw [c0]; exact mo, rfl, rfl, e0, rfl⟩ ?_ ?_
  · rintro i σ H1 hi ⟨k1, s, ws, o1, gd, hp, mo1, lw, eW, e1, rfl⟩
    rw [List.drop_eq_getElem_cons hi] at mo1 eW
    have hmv : (mvs.map mvV)[i]? = some (mvV mvs[i]) := by simp [hi]
    obtain ⟨mv, hmv2⟩ : ∃ mv, mvs[i] = mv := ⟨_, rfl⟩
    rw [hmv2] at mo1 eW hmv
    rw [plG_cons] at eW
    have hok := mo1.1.ok
    obtain ⟨w2, _⟩ := mv_word gd.w nm hok
    have wl := w2.le
    refine seq_cutR (fun σ' H' => H' = H1 ∧ σ' = [some (nat R), some (.ref mp), some (nat m), some (nat N), some (.ref pp), some (.str (mvW s.1 mv)), some (.ref q), some (.int (0 + (i : Nat)))]) (fun N' hN => ?_) ?_
    · refine IxR'.l (.of (k1 _ _ hmp)) (v := mvV mv) (at_of (j := i) (by omega) hmv) ?_
      cases mv with
      | new => exact hN _ _ ⟨rfl, rfl⟩
      | old a =>
        refine IxR'.l (.of (k1 _ _ hmp)) (v := nat a) (at_of (j := i) (by omega) hmv) ?_
        exact CallP.by (p_freed T) (by decide) ⟨s.1, a, rfl, by have := gd.w.le; omega, hok, hN _ _ ⟨rfl, rfl⟩⟩
    · rintro σ' H2 ⟨rfl, rfl⟩
      have ei : V.int (0 + (i : Nat)) = nat i := congrArg V.int (Int.zero_add _)
      rw [ei]
      refine CallP.by (p_amt T) (by decide) ⟨R, m, i, mvW s.1 mv, pp, bs, rfl, k1 _ _ hpp, bo, wl, m2, ?_⟩
      have htl := hc.le (mvW s.1 mv) i
      have hxo := w2.ones
      have hkn := ne_of_ones (z := mvW s.1 mv) (k := cLz bs m R (mvW s.1 mv) i) (.inr htl)
      obtain ⟨b1, b2, b3, b4⟩ := lcs_all (cLz bs m R (mvW s.1 mv) i) w2.ok hkn
      refine CallP.by (p_lc T) (by decide) ⟨mvW s.1 mv, cLz bs m R (mvW s.1 mv) i, rfl, by omega, w2.ok, by omega, hkn, ?_⟩
      dsimp only [gName]
      by_cases e : (mvW s.1 mv).length = m
      · have en : nxS (cLz bs m R) m bs.length s mv = none := if_pos e
        rw [en] at eW
        rw [hc.full _ i e]
        refine ⟨ml (by show (mvW s.1 mv).length ≤ 100000; omega), ite_i (fun c => ?_) (fun c => ?_)⟩
        · refine h q H2 k1 ?_
          rw [e1, eW]
          show _ = some (HO.lst ((ws ++ []).map V.str))
          rw [List.append_nil]
        · have := df0 c
          have e2 : (lcs 0 (mvW s.1 mv)).length = (mvW s.1 mv).length := rfl
          omega
      · have en : nxS (cLz bs m R) m bs.length s mv = some (nxt (mvW s.1 mv) (cLz bs m R (mvW s.1 mv) s.2), (s.2 + 1) % bs.length) := if_neg e
        have ec : cLz bs m R (mvW s.1 mv) s.2 = cLz bs m R (mvW s.1 mv) i := by rw [hp, cLz_mod]
        rw [ec] at en
        obtain ⟨g', l'⟩ := nxS_gd hc nm l1 gd hok en
        refine ⟨ml (by omega), ite_i (fun c => ?_) (fun c => ?_)⟩
        · have := dt0 c; omega
        refine ⟨by rw [len1, sizeLine_eq]; omega, ?_⟩
        dsimp only [gName]
        refine IsLst.by rfl (.of e1) ?_
        refine AppP.by e1 (by rw [List.length_map, sizeLine_eq]; omega) ?_
        rw [en] at eW
        refine ⟨gr_upd k1 hq, _, ws ++ [nxt (mvW s.1 mv) (cLz bs m R (mvW s.1 mv) i)], some (nat i), g', ?_, by rw [l']; exact mo1.2, by rw [List.length_append, lw]; rfl, ?_, by rw [List.map_append]; exact upd_same, rfl⟩
        · show (s.2 + 1) % bs.length = _
          rw [hp, Nat.mod_add_mod]
        · rw [eW, List.append_assoc]; rfl
  · rintro σ H1 ⟨k1, s, ws, o1, gd, hp, mo1, lw, eW, e1, rfl⟩
    rw [List.drop_length] at eW
    refine h q H1 k1 ?_
    rw [e1, eW]
    show _ = some (HO.lst ((ws ++ []).map V.str))
    rw [List.append_nil]
end
end Lw
-- of law_k56_whole_lazy_edge
namespace Lw
open PySem PySem.Spec PyProof.Rows L2 Cy Tx
theorem plG_some {c : Str → Nat → Nat} {m L : Nat} : ∀ {r : List Mv} {s t : Sd} (b : List Mv), plR c m L s r = some t → plG c m L s (r ++ b) = plG c m L s r ++ plG c m L t b ∧ (plG c m L s r).length = r.length
  | [], s, t, b, h => by cases h; exact ⟨rfl, rfl⟩
  | x :: r, s, t, b, h => by
    have h : (match nxS c m L s x with | none => none | some s' => plR c m L s' r) = some t := h
    cases e : nxS c m L s x with
    | none => rw [e] at h; cases h
    | some s' =>
      rw [e] at h
      obtain ⟨q1, q2⟩ := plG_some b h
      rw [List.cons_append, plG_cons, plG_cons, e]
      show s'.1 :: plG c m L s' (r ++ b) = s'.1 :: plG c m L s' r ++ plG c m L t b ∧ _
      rw [q1]
      exact ⟨rfl, congrArg (· + 1) q2⟩
theorem plG_stl {c : Str → Nat → Nat} {m L : Nat} {r : List Mv} {mv : Mv} {s t : Sd} (h : plR c m L s r = some t) (e : nxS c m L t mv = none) : plG c m L s (r ++ [mv]) = plG c m L s r ∧ (plG c m L s (r ++ [mv])).length = r.length := by
  obtain ⟨q1, q2⟩ := plG_some [mv] h
  have q3 : plG c m L t [mv] = [] := by rw [plG_cons, e]
  rw [q3, List.append_nil] at q1
  rw [q1]
  exact ⟨rfl, q2⟩
theorem plG_full {c : Str → Nat → Nat} {m L : Nat} {r : List Mv} {s : Sd} (h : plR c m L s r ≠ none) : (plG c m L s r).length = r.length := by
  cases e : plR c m L s r with
  | none => exact absurd e h
  | some t => exact (plG_some [] e).2
theorem cnt_le {N : Nat} : ∀ {l : List Mv} {c : Nat}, MvsOk N c l → c ≤ N → l.foldl mvC c ≤ N
  | [], _, _, h => h
  | x :: r, c, h, k => by
    show r.foldl mvC (mvC c x) ≤ N
    exact cnt_le (l := r) h.2 (h.1.le k)
theorem mvs_at {N : Nat} : ∀ {l : List Mv} {c i : Nat} {mv : Mv}, MvsOk N c l → l[i]? = some mv → MvC ((l.take i).foldl mvC c) N mv
  | [], _, i, _, _, e => by cases e
  | x :: r, c, 0, mv, h, e => by cases e; exact h.1
  | x :: r, c, i + 1, mv, h, e => mvs_at (l := r) h.2 e
theorem mvs_take {N : Nat} : ∀ {l : List Mv} {c : Nat} (i : Nat), MvsOk N c l → MvsOk N c (l.take i)
  | _, _, 0, _ => trivial
  | [], _, i + 1, _ => trivial
  | x :: r, c, i + 1, h => ⟨h.1, mvs_take i h.2⟩
theorem sif1 {c : TT} {t u : TS} {D : Ends} {σ : L2.St} {H : Hp} (post : Bool → Hp → Prop) (h1 : ∀ K : Bool → Hp → Prop, (∀ b H2, post b H2 → K b H2) → c σ H K)
    (h2 : ∀ b H2, post b H2 → if b = true then t D σ H2 else u D σ H2) : tIfS c t u D σ H := h1 _ h2
section
variable {g : Wd} {j : Nat} {H : Hp}
def spIsr : Sp := fun vs H Q _ => ∃ (p : Addr) (mvs : List Mv) (N : Nat), vs = [.ref p, nat N] ∧ H p = some (.lst (mvs.map mvV)) ∧ MvsOk N 0 mvs ∧ mvs.length ≤ 200000 ∧ Q (.bl true) H
theorem p_isr (T : Top g) : FnG g 4 (gad g.K "_law_is_row") spIsr := fk__law_is_row T 2 fun vs H Q E ⟨p, mvs, N, ev, hp, mo, lm, h⟩ => by
  subst ev
  refine ⟨rfl, sif (fun b H2 => H2 = H ∧ b = false) (fun K hK => IsiP.lst rfl hp rfl rfl (hK _ _ ⟨rfl, rfl⟩)) ?_⟩
  rintro b H2 ⟨rfl, rfl⟩
  refine ite_i (fun z => Bool.noConfusion z) (fun _ => ?_)
  dsimp only [tNext]
  refine seq_cutR (fun σ' H' => H' = H2 ∧ σ' = [some (.ref p), some (nat N), some (nat 0), none]) (fun N' hN => hN _ _ ⟨rfl, rfl⟩) ?_
  rintro σ' H3 ⟨rfl, rfl⟩
  refine SeqP.l rfl (.of hp) ?_
  refine for_list (xs := mvs.map mvV) (fun i σ H' => H' = H3 ∧ ∃ o, σ = [some (.ref p), some (nat N), some (nat ((mvs.take i).foldl mvC 0)), o]) ⟨rfl, none, rfl⟩ (fun i σ H' _ q => by rw [q.1]; exact .of hp) ?_ ?_
  · rintro i x σ H4 hx ⟨rfl, o, rfl⟩
    have hi : i < mvs.length := by
      have := (List.getElem?_eq_some_iff.mp hx).1
      rw [List.length_map] at this
      exact this
    rw [List.getElem?_map, List.getElem?_eq_getElem hi] at hx
    have hx := (Option.some.inj hx).symm
    subst hx
    have hmv : mvs[i]? = some mvs[i] := List.getElem?_eq_getElem hi
    have mc := mvs_at mo hmv
    have htk : (mvs.take (i + 1)).foldl mvC 0 = mvC ((mvs.take i).foldl mvC 0) mvs[i] := by rw [List.take_succ, hmv, List.foldl_append]; rfl
    have cl := cnt_le (mvs_take (i + 1) mo) (Nat.zero_le _)
    rw [htk] at cl ⊢
    generalize mvs[i] = mv at *
    generalize (mvs.take i).foldl mvC 0 = c at *
    dsimp only [gName]
    refine seq_cutR (fun σ' H' => H' = H4 ∧ σ' = [some (.ref p), some (nat N), some (nat (mvC c mv)), some (mvV mv)]) (fun N' hN => ?_) ?_
    · cases mv with
      | new => exact hN _ _ ⟨rfl, rfl⟩
      | old a =>
        have ha : a < c := mc
        refine sif1 (fun b H2 => H2 = H4 ∧ b = false) (fun K hK => hK _ _ ⟨rfl, rfl⟩) ?_
        rintro b H5 ⟨rfl, rfl⟩
        refine ite_i (fun z => Bool.noConfusion z) (fun _ => ?_)
        refine sif1 (fun b H2 => H2 = H5 ∧ b = false) (fun K hK => ?_) ?_
        · refine CallP.by (p_isc T) (by decide) ⟨_, rfl, ?_⟩
          refine ite_i (fun z => Bool.noConfusion z) (fun _ => ?_)
          refine ite_i (fun z : decide ((a : Int) < 0) = true => by have := of_decide_eq_true z; omega) (fun _ => ?_)
          have e : decide ((c : Int) ≤ (a : Int)) = false := decide_eq_false (by omega)
          show K (decide ((c : Int) ≤ (a : Int))) H5
          rw [e]
          exact hK _ _ ⟨rfl, rfl⟩
        · rintro b H6 ⟨rfl, rfl⟩
          refine ite_i (fun z => Bool.noConfusion z) (fun _ => ?_)
          exact hN _ _ ⟨rfl, rfl⟩
    · rintro σ' H5 ⟨rfl, rfl⟩
      refine ite_i (fun z : decide ((N : Int) < ((mvC c mv : Nat) : Int)) = true => by have := of_decide_eq_true z; omega) (fun _ => ?_)
      exact ⟨rfl, _, rfl⟩
  · rintro σ H4 ⟨rfl, o, rfl⟩
    exact h
def spJud : Sp := fun vs H Q _ => ∃ (v : V) (fo : Bool) (R m N : Nat) (tp pp : Addr) (bs : List Int), vs = [v, .bl fo, nat R, .ref tp, .ref pp] ∧ H tp = some (.lst [nat m, nat N]) ∧ H pp = some (.lst (bs.map V.int)) ∧ BsOk bs ∧ 1 ≤ N ∧ N ≤ m ∧ m ≤ 1000 ∧
  ((fo = true ∧ v = .non) ∨ (fo = false ∧ ∃ (p : Addr) (row : List Mv), v = .ref p ∧ H p = some (.lst (row.map mvV)) ∧ row.length ≤ 100000 ∧ Stl (cLz bs m R) m N bs.length row)) ∧ ∀ H', Gr H H' → Q (.bl true) H'
theorem p_jud (T : Top g) : FnG g 6 (gad g.K "_law_judged") spJud := fk__law_judged T 4 fun vs H Q E ⟨v, fo, R, m, N, tp, pp, bs, ev, htp, hpp, bo, n1, nm, m2, hv, h⟩ => by
  subst ev
  rcases hv with ⟨rfl, rfl⟩ | ⟨rfl, p, row, rfl, hp, lr, r, mv, t, er, mo, e1, e2⟩
  · exact ⟨rfl, h _ Gr.refl⟩
  · have lrow : row.length = r.length + 1 := by rw [er, List.length_append]; rfl
    refine ⟨rfl, ?_⟩
    refine seq_cutR (fun σ' H' => H' = H ∧ σ' = [some (.ref p), some (.bl false), some (nat R), some (.ref tp), some (.ref pp)]) (fun N' hN => hN _ _ ⟨rfl, rfl⟩) ?_
    rintro σ' H2 ⟨rfl, rfl⟩
    refine sif (fun b H3 => H3 = H2 ∧ b = false) (fun K hK => ?_) ?_
    · refine IxR'.l (xs := [nat m, nat N]) (.of htp) (v := nat N) (at_of (j := 1) rfl rfl) ?_
      refine CallP.by (p_isr T) (by decide) ⟨p, row, N, rfl, hp, mo, by omega, ?_⟩
      refine ite_i (fun z => Bool.noConfusion z) (fun _ => ?_)
      refine LenP.l (.of hp) ?_
      rw [List.length_map]
      have e : decide ((row.length : Int) = 0) = false := decide_eq_false (by omega)
      show K (false != decide ((row.length : Int) = 0)) H2
      rw [e]
      exact hK _ _ ⟨rfl, rfl⟩
    · rintro b H3 ⟨rfl, rfl⟩
      refine ite_i (fun z => Bool.noConfusion z) (fun _ => ?_)
      dsimp only [tNext]
      refine IxR'.l (xs := [nat m, nat N]) (.of htp) (v := nat m) (at_of (j := 0) rfl rfl) ?_
      refine IxR'.l (xs := [nat m, nat N]) (.of htp) (v := nat N) (at_of (j := 1) rfl rfl) ?_
      refine CallP.by (p_play2 T) (by decide) ⟨p, pp, row, R, m, N, bs, rfl, hp, by omega, mo, nm, n1, m2, hpp, bo, fun q H4 k4 hq => ?_⟩
      refine LenP.l (.of hq) ?_
      refine LenP.l (.of (k4 _ _ hp)) ?_
      rw [List.length_map, List.length_map, er, (plG_stl e1 e2).2, List.length_append]
      have e3 : (false != decide (((r.length : Nat) : Int) = ((r.length + [mv].length : Nat) : Int) - 1)) = true := by
        rw [show ((r.length + [mv].length : Nat) : Int) - 1 = (r.length : Nat) by show ((r.length + 1 : Nat) : Int) - 1 = _; omega]
        simp
      show Q (.bl (false != decide (((r.length : Nat) : Int) = ((r.length + [mv].length : Nat) : Int) - 1))) H4
      rw [e3]
      exact h _ k4
end
end Lw
-- of law_k56_whole_lazy_edge
namespace Lw
open PySem PySem.Spec PyProof.Rows L2 Cy Tx
section
variable {g : Wd} {j : Nat} {H : Hp}
theorem kf_lz (T : Top g) (R m N : Nat) {bs : List Int} (bo : BsOk bs) : Kf g 10 (fun k H => OneF g "Lazy" "_mark" (R : Nat) k H) (cLz bs m R) m N bs where
  gr := fun k h => h.gr k
  ch := fun {k H} h => by
    obtain ⟨dx, hk⟩ := h
    refine ⟨_, dx, _, _, hk, cl_Lazy T, mt_Lazy_choose T, lkn (by decide), (p_lch T (R : Nat)).imp fun vs H Q E ⟨k, z, r, ph, ev, hk, w, hp, hr, h⟩ => ?_⟩
    obtain ⟨ok, hz, m1, m2, le, n1, ones, nm⟩ := id w
    refine ⟨k, z, m, ph, r, bs, ev, by omega, hk, hr, bo.l1, ?_⟩
    rw [moment_ok ok (by omega) (by omega) (by omega)]
    show Q (.int (if ((R : Nat) : Int) < (m : Int) - (z.length : Int) then 0 else mostA z m bs ph)) H
    have e : (if ((R : Nat) : Int) < (m : Int) - (z.length : Int) then 0 else mostA z m bs ph) = ((cLz bs m R z ph : Nat) : Int) := by
      unfold cLz
      by_cases q : R + z.length < m
      · rw [if_pos (by omega), if_pos q]; rfl
      · rw [if_neg (by omega), if_neg q, mostN_int bo.nn]
    rw [e]
    exact h _ Gr.refl
  le := cLz_le bs m R
theorem mk_lz (T : Top g) {m : Int} {Q : VK} {E : XK} (hj : 7 ≤ j) (hm : 0 ≤ m) (h : ∀ k H', Gr H H' → H k = none → OneF g "Lazy" "_mark" m k H' → Q (.ref k) H') : MakeP g j (gad g.K "Lazy") [.int m] H Q E :=
  MakeP.by (mk_Lazy T) (p_linit T) hj fun x dx hx hdx hne => ⟨x, dx, m, rfl, upd_same, by
    rw [if_neg (by omega)]
    refine ⟨rfl, h x _ (fun a o e => ?_) hx ⟨dx, upd_same⟩⟩
    rw [upd_ne (ne_of_none e hx), upd_ne (ne_of_none e hx), upd_ne (ne_of_none e hdx)]
    exact e⟩
theorem RoundAt.gk {H' : Hp} {r k : Addr} {bs : List Int} {n : Int} (hk : OneF g "Lazy" "_mark" n k H) (q : Gx k H H') (h : RoundAt g H r bs) : RoundAt g H' r bs := by
  obtain ⟨dx, t, h1, h2⟩ := h
  obtain ⟨dk, ek⟩ := hk
  refine ⟨dx, t, q _ _ (fun e => ?_) h1, q _ _ (fun e => ?_) h2⟩
  · rw [e, ek] at h1
    have h3 := HO.ins.inj (Option.some.inj h1)
    have h4 := h3.2.2
    have h5 : ("_mark" : Str) = "_budgets" := by
      have := congrArg (fun l : List (Str × V) => l.map (·.1)) h4
      simpa using this
    exact absurd h5 (by decide)
  · rw [e, ek] at h2
    cases h2
theorem lst_gk {H' : Hp} {a k : Addr} {xs : List V} {n : Int} (hk : OneF g "Lazy" "_mark" n k H) (q : Gx k H H') (h : H a = some (.lst xs)) : H' a = some (.lst xs) := by
  obtain ⟨dk, ek⟩ := hk
  exact q _ _ (fun e => by rw [e, ek] at h; cases h) h
theorem ans_none {ok : Prop} {E : XK} (h : ok) : Ans g none H ok E := h
def spSmall (g : Wd) : Sp := fun vs H Q _ => ∃ (sc b : Addr) (ns : List Int), vs = [.ref sc, .ref b] ∧ Dr g H sc b 0 ns ∧ ∀ H', Gx b H H' → Q (.bl true) H'
theorem p_small (T : Top g) : FnG g 28 (gad g.K "_law_small") (spSmall g) := fk__law_small T 26 fun vs H Q E ⟨sc, b, ns, ev, D, h⟩ => by
  subst ev
  refine ⟨rfl, ?_⟩
  refine seq_cutR (fun σ' H' => Gx b H H' ∧ Dr g H' sc b 2 ns ∧ ∃ m : Nat, 1 ≤ m ∧ m ≤ 7 ∧ σ' = [some (.ref sc), some (.ref b), some (nat m), none, none, none, none, none, none, none, none]) (fun N' hN => ?_) ?_
  · refine t_take T D (by decide) (by omega) (by decide) (by decide) fun d H1 d0 d1 k1 D1 => ?_
    refine ⟨(by decide : 2 ≤ sizeLine), fun q hq => ?_⟩
    obtain ⟨kq, eq, Dq⟩ := D1.al (o := .lst [.int (1 + d), .int 7]) hq
    refine t_take T Dq (by decide) (by omega) (by decide) (by decide) fun e H2 e0 e1 k2 D2 => ?_
    have kx := (k1.trans (Gx.gr (Gr.new (o := .lst [.int (1 + d), .int 7]) hq))).trans k2
    have eq2 := k2 _ _ (D1.nb hq) (upd_same (H := H1) (a := q) (o := .lst [.int (1 + d), .int 7]))
    have a1 := hN [some (.ref sc), some (.ref b), some (nat (1 + d).toNat), none, none, none, none, none, none, none, none] H2 ⟨kx, D2.mono (by omega), _, by omega, by omega, rfl⟩
    have a2 := hN [some (.ref sc), some (.ref b), some (nat 7), none, none, none, none, none, none, none, none] H2 ⟨kx, D2.mono (by omega), 7, by omega, by omega, rfl⟩
    have e3 : nat (1 + d).toNat = V.int (1 + d) := congrArg V.int (by omega)
    rw [e3] at a1
    by_cases q0 : e = 0
    · subst q0
      exact IxR'.l (.of eq2) (v := .int 7) (at_of (j := 1) rfl rfl) a2
    · have e4 : (false != decide (e = 0)) = false := by simp [q0]
      show cIx g.K (.ref q) (.int (if (false != decide (e = 0)) = true then 1 else 0)) H2 _
      rw [e4]
      exact IxR'.l (.of eq2) (v := .int (1 + d)) (at_of (j := 0) rfl rfl) a1
  rintro σ' H2 ⟨k2, D2, m, m1, m7, rfl⟩
  refine seq_cutR (fun σ' H' => Gx b H H' ∧ Dr g H' sc b 3 ns ∧ ∃ N : Nat, 1 ≤ N ∧ N ≤ m ∧ σ' = [some (.ref sc), some (.ref b), some (nat m), some (nat N), none, none, none, none, none, none, none]) (fun N' hN => ?_) ?_
  · refine t_take T D2 (by decide) (by omega) (by omega) (by omega) fun d H3 d0 d1 k3 D3 => ?_
    have a1 := hN [some (.ref sc), some (.ref b), some (nat m), some (nat (1 + d).toNat), none, none, none, none, none, none, none] H3 ⟨k2.trans k3, D3.mono (by omega), _, by omega, by omega, rfl⟩
    have e3 : nat (1 + d).toNat = V.int (1 + d) := congrArg V.int (by omega)
    rw [e3] at a1
    exact a1
  rintro σ' H3 ⟨k3, D3, N, n1, nm, rfl⟩
  refine CallP.by (p_pays T) (by decide) ⟨sc, b, 3, _, ns, rfl, D3, by omega, by decide, by decide, fun pp bs H4 bu npp k4 D4 hpp => ?_⟩
  dsimp only [gName]
  refine seq_cutR (fun σ' H' => Gx b H H' ∧ Dr g H' sc b 44 ns ∧ ∃ (pp : Addr) (bs : List Int), pp ≠ b ∧ H' pp = some (.lst (bs.map V.int)) ∧ BsOk bs ∧ σ' = [some (.ref sc), some (.ref b), some (nat m), some (nat N), some (.ref pp), none, none, none, none, none, none]) (fun N' hN => ?_) ?_
  · refine t_take T D4 (by decide) (by omega) (by decide) (by decide) fun d H5 d0 d1 k5 D5 => ?_
    have nppb := D3.nb npp
    have hpp5 := k5 _ _ nppb hpp
    refine ite_i (fun c => ?_) (fun c => hN _ _ ⟨(k3.trans k4).trans k5, D5.mono (by omega), pp, bs, nppb, hpp5, bu.ok (by decide), rfl⟩)
    exact CallP.by (p_rais2 T) (by decide) ⟨pp, bs, N, m, rfl, hpp5, bu, n1, by omega, by omega, fun p2 bs2 H6 k6 hp2 bo2 fr => hN _ _ ⟨((k3.trans k4).trans k5).trans (Gx.gr k6), (D5.gr k6).mono (by omega), p2, bs2, by
      rcases fr with rfl | fr
      · exact nppb
      · exact D5.nb fr, hp2, bo2, rfl⟩⟩
  clear hpp bu npp
  rintro σ' H5 ⟨k5, D5, pp, bs, nppb, hpp, bo, rfl⟩
  have l1 := bo.l1
  refine CallP.by (p_round T) (by decide) ⟨pp, bs, rfl, hpp, bo, fun r H6 k6 ra => ?_⟩
  dsimp only [gName]
  refine sif (fun b H' => Gr H6 H' ∧ b = false) (fun K hK => ?_) ?_
  · exact CallP.by (p_edge T) (by decide) ⟨r, pp, bs, m, N, rfl, ra, k6 _ _ hpp, bo, n1, by omega, m1, by omega, fun H7 k7 => hK _ _ ⟨k7, rfl⟩⟩
  rintro b0 H7 ⟨k7, rfl⟩
  refine ite_i (fun z => Bool.noConfusion z) (fun _ => ?_)
  dsimp only [tNext]
  refine CallP.by (p_need T) (by decide) ⟨pp, bs, N, rfl, k7 _ _ (k6 _ _ hpp), bo, n1, by omega, fun nv H8 k8 hnv => ?_⟩
  dsimp only [gName]
  have D8 := ((D5.gr k6).gr k7).gr k8
  have hpp8 := k8 _ _ (k7 _ _ (k6 _ _ hpp))
  have ra8 := (ra.gr k7).gr k8
  have hcv : nv = .non ∨ ∃ c : Nat, nv = nat c ∧ c ≤ 100000 := by
    rcases hnv with ⟨rfl, _⟩ | ⟨c, rfl, nd⟩
    · exact .inl rfl
    · refine .inr ⟨c, rfl, Nat.not_lt.mp fun z => ?_⟩
      have hw : Wq bs 84 ((N : Int) - 1) := fun f hf => by
        have hs := sum_nn' bo.nn
        have hz : bs.sum ≠ 0 := fun e => by
          have := nd.ok 0 l1
          rw [cum_zero (sum_zero bo.nn e)] at this
          have := nd.min 0 (by omega) (fun f _ => by show (N : Int) - 1 ≤ 0; omega)
          exact this
        have e1 := turns_sum l1 (f : Nat) 7 0
        have e2 := cumI_mono bo.nn (f : Nat) (show 7 * bs.length + 0 ≤ 84 by have := bo.l2; omega)
        have e3 : cumI bs (f : Nat) 0 = 0 := rfl
        rw [e1, e3] at e2
        have e4 : ((7 : Nat) : Int) * bs.sum = 7 * bs.sum := rfl
        omega
      exact nd.min 84 (by omega) hw
  refine CallP.by (p_levs T) (by decide) ⟨sc, b, nv, m, _, ns, rfl, hcv, D8, by omega, by omega, fun lp ls H9 l4 l0 lub hob k9 hlp => ?_⟩
  dsimp only [gName]
  have hpp9 := k9 _ _ nppb hpp8
  have ra9 := ra8.gx k9 D8.bx
  refine IxR'.l (.of hlp) (v := nat ls[0]) (at_of (j := 0) rfl (by simp [l0])) ?_
  refine mk_lz T (by decide) (by omega) fun k H10 k10 nk hk => ?_
  dsimp only [gName]
  have hlp10 := k10 _ _ hlp
  have hpp10 := k10 _ _ hpp9
  have ra10 := ra9.gr k10
  have kb10 : Gx b H H10 := ((((k5.trans (Gx.gr k6)).trans (Gx.gr k7)).trans (Gx.gr k8)).trans k9).trans (Gx.gr k10)
  have nkb : k ≠ b := fun e => by
    obtain ⟨o, z⟩ := hob
    rw [e, z] at nk
    cases nk
  have hk0 : H k = none := by
    cases q : H k with
    | none => rfl
    | some o =>
      have kb9 : Gx b H H9 := (((k5.trans (Gx.gr k6)).trans (Gx.gr k7)).trans (Gx.gr k8)).trans k9
      rw [kb9 _ _ nkb q] at nk
      cases nk
  refine SeqP.l rfl (.of hlp10) ?_
  refine for_list (xs := ls.map nat) (fun i σ H' => Gx k H10 H' ∧ (∃ n : Nat, OneF g "Lazy" "_mark" (n : Nat) k H') ∧ ∃ o1 o2, σ = [some (.ref sc), some (.ref b), some (nat m), some (nat N), some (.ref pp), some (.ref r), some nv, some (.ref lp), some (.ref k), o1, o2]) ⟨Gx.refl, ⟨ls[0], hk⟩, none, none, rfl⟩ (fun i σ H' _ q => .of (lst_gk hk q.1 hlp10)) ?_ ?_
  · rintro i x σ H11 hx ⟨k11, ⟨n0, hk11⟩, o1, o2, rfl⟩
    have hi : i < ls.length := by
      have := (List.getElem?_eq_some_iff.mp hx).1
      rw [List.length_map] at this
      exact this
    rw [List.getElem?_map, List.getElem?_eq_getElem hi] at hx
    have hx := (Option.some.inj hx).symm
    subst hx
    have hlu := lub ls[i] (List.getElem_mem hi)
    generalize ls[i] = R at *
    dsimp only [gName]
    obtain ⟨dk, ek⟩ := hk11
    refine MethP.own rfl ek (cl_Lazy T) (mt_Lazy_set_mark T) (lkn (by decide)) ?_
    refine CallP.by (p_setm T) (by decide) ⟨k, dk, (R : Nat), (n0 : Nat), rfl, ek, ?_⟩
    rw [if_neg (by omega)]
    refine ans_none ?_
    have k12 : Gx k H10 (upd H11 k (.ins (gad g.K "Lazy") dk [("_mark", .int (R : Nat))])) := k11.trans Gx.upd
    have hk12 : OneF g "Lazy" "_mark" (R : Nat) k (upd H11 k (.ins (gad g.K "Lazy") dk [("_mark", .int (R : Nat))])) := ⟨dk, upd_same⟩
    revert k12 hk12
    generalize upd H11 k (.ins (gad g.K "Lazy") dk [("_mark", .int (R : Nat))]) = H12
    intro k12 hk12
    dsimp only
    have hpp12 := lst_gk hk k12 hpp10
    have ra12 := ra10.gk hk k12
    refine seq_cutR (fun σ' H' => Gr H12 H' ∧ ∃ fo : Bool, (fo = true → ∃ c, Wq bs c ((N : Int) - 1) ∧ c ≤ m - N ∧ c ≤ R) ∧ (fo = false → ¬ Wq bs (min R (m - N)) ((N : Int) - 1)) ∧ σ' = [some (.ref sc), some (.ref b), some (nat m), some (nat N), some (.ref pp), some (.ref r), some nv, some (.ref lp), some (.ref k), some (nat R), some (.bl fo)]) (fun N' hN => ?_) ?_
    · refine CallP.by (p_goes2 T) (by decide) ⟨pp, bs, N, m, rfl, hpp12, bo, n1, by omega, by omega, fun b1 H13 k13 hb1 => ?_⟩
      cases b1 with
      | false => exact hN _ _ ⟨k13, false, fun e => Bool.noConfusion e, fun _ w => Bool.noConfusion (hb1.mpr ⟨nm, w.mono bo.nn (by omega) (Int.le_refl _)⟩), rfl⟩
      | true =>
        have hw := (hb1.mp rfl).2
        rcases hnv with ⟨rfl, no⟩ | ⟨c, rfl, nd⟩
        · exact absurd hw (no _)
        · refine hN _ _ ⟨k13, decide ((c : Int) ≤ (R : Int)), fun e => ⟨c, nd.ok, Nat.not_lt.mp fun z => nd.min _ z hw, by have := of_decide_eq_true e; omega⟩, fun e w => ?_, rfl⟩
          have := of_decide_eq_false e
          exact nd.min (min R (m - N)) (by omega) w
    · rintro σ' H13 ⟨k13, fo, f1, f2, rfl⟩
      have hk13 := hk12.gr k13
      have k1013 : Gx k H10 H13 := k12.trans (Gx.gr k13)
      refine sif1 (fun b H' => Gr H13 H' ∧ b = false) (fun K hK => ?_) ?_
      · have hpp13 := k13 _ _ hpp12
        have jud : ∀ (v : V) H14, Gr H13 H14 → ((fo = true ∧ v = .non) ∨ (fo = false ∧ ∃ (p : Addr) (row : List Mv), v = .ref p ∧ H14 p = some (.lst (row.map mvV)) ∧ row.length ≤ 100000 ∧ Stl (cLz bs m R) m N bs.length row)) → 2 ≤ sizeLine ∧ ∀ q, H14 q = none → CallP g 26 (gad g.K "_law_judged") [v, .bl fo, nat R, .ref q, .ref pp] (upd H14 q (.lst [nat m, nat N])) (fun x H1 => cTru g.K (fun _ H Q => Q x H) [] H1 (fun b H => K (!b) H)) (fun cls d H' => E cls d H') := fun v H14 k14 hv => by
          refine ⟨by decide, fun q hq => ?_⟩
          have kq : Gr H14 (upd H14 q (.lst [nat m, nat N])) := Gr.new hq
          refine CallP.by (p_jud T) (by decide) ⟨v, fo, R, m, N, q, pp, bs, rfl, upd_same, kq _ _ (k14 _ _ hpp13), bo, n1, nm, by omega, ?_, fun H15 k15 => ?_⟩
          · rcases hv with hv | ⟨a1, p, row, a2, a3, a4⟩
            · exact .inl hv
            · exact .inr ⟨a1, p, row, a2, kq _ _ a3, a4⟩
          · exact hK _ _ ⟨k14.trans (kq.trans k15), rfl⟩
        refine CallP.by (p_worst T (by decide) (kf_lz T R m N bo) l1 bo.l2 n1 nm (by omega)) (by decide) ⟨k, r, rfl, hk13, ra12.gr k13, fun all H14 k14 => ?_, fun p n f jj mv H14 _ st lr _ k14 hp => ?_⟩
        · refine jud .non H14 k14 (.inl ⟨?_, rfl⟩)
          cases fo with
          | true => rfl
          | false =>
            obtain ⟨row, mo, e⟩ := some_stall (R := R) bo.nn l1 nm n1 (by omega) (f2 rfl)
            exact absurd e (all row mo)
        · refine jud (.ref p) H14 k14 (.inr ⟨?_, p, _, rfl, hp, lr, st⟩)
          cases fo with
          | false => rfl
          | true =>
            obtain ⟨c, w1, w2, w3⟩ := f1 rfl
            obtain ⟨rr, mv2, t, er, mo, e1, e2⟩ := st
            refine absurd ?_ (lz_forever (R := R) bo.nn l1 n1 nm (by omega) w1 w2 w3 mo)
            rw [er, plR_snoc e1]
            exact e2
      · rintro b2 H14 ⟨k14, rfl⟩
        refine ite_i (fun z => Bool.noConfusion z) (fun _ => ?_)
        exact ⟨k1013.trans (Gx.gr k14), ⟨R, hk13.gr k14⟩, _, _, rfl⟩
  · rintro σ H11 ⟨k11, ⟨n0, hk11⟩, o1, o2, rfl⟩
    obtain ⟨dr2, tr, i1, i2⟩ := ra10.gk hk k11
    refine PropP.by rfl i1 (cl_Round T) (pr_Round_budgets T) (p_rbud T) (by decide) ⟨r, bs, rfl, ⟨dr2, tr, i1, i2⟩, fun q hq => ?_⟩
    refine eq_ints upd_same ((Gr.new hq) _ _ (lst_gk hk k11 hpp10)) (h _ fun a o na e => ?_)
    have e10 := kb10 _ _ na e
    exact (Gr.new hq) _ _ (k11 _ _ (fun z => by rw [z, hk0] at e; cases e) e10)
end
end Lw
-- of law_k56_whole_lazy_edge
namespace Lw
open PySem PySem.Spec PyProof.Rows L2 Cy Tx
theorem first_at {v : Int} : ∀ {l : List Int}, v ∈ l → ∃ j : Nat, l[j]? = some v ∧ ∀ (i : Nat) (z : Int), i < j → l[i]? = some z → z ≠ v
  | a :: r, h => by
    by_cases e : a = v
    · exact ⟨0, by rw [e]; rfl, fun i z hi => absurd hi (Nat.not_lt_zero _)⟩
    · obtain ⟨j, h1, h2⟩ := first_at (l := r) (by
        rcases List.mem_cons.mp h with q | q
        · exact absurd q.symm e
        · exact q)
      refine ⟨j + 1, h1, fun i z hi hz => ?_⟩
      cases i with
      | zero => cases hz; exact e
      | succ i => exact h2 i z (by omega) hz
theorem rep_flat {v : V} : ∀ n : Nat, (List.replicate n [v]).flatten = List.replicate n v
  | 0 => rfl
  | n + 1 => by rw [List.replicate_succ, List.flatten_cons, rep_flat n, List.replicate_succ]; rfl
theorem cnt_new : ∀ {l : List Mv} {c : Nat}, l.foldl mvC c = c + (l.map mvV).countP fun z => eqV z .non
  | [], c => rfl
  | x :: r, c => by
    rw [List.foldl_cons, List.map_cons, List.countP_cons, cnt_new]
    cases x with
    | new => show c + 1 + _ = c + (_ + 1); omega
    | old i => show c + _ = c + (_ + 0); omega
section
variable {g : Wd} {j : Nat} {H : Hp}
def spSrow : Sp := fun vs H Q _ => ∃ (pp : Addr) (bs : List Int) (R N m : Nat), vs = [.ref pp, nat R, nat N, nat m] ∧ H pp = some (.lst (bs.map V.int)) ∧ BsOk bs ∧ 1 ≤ N ∧ N ≤ m ∧ m ≤ 1000 ∧ R ≤ m - N ∧
  ∀ (p : Addr) (sh : Nat) (v : Int) H', Gr H H' → sh < bs.length → LeW bs R v → cumI bs ((N + sh + (m - N - R) : Nat) : Int) R = v → H' p = some (.lst ((rowA m N sh ++ [Mv.old (N - 1)]).map mvV)) → Q (.ref p) H'
theorem p_srow (T : Top g) : FnG g 2 (gad g.K "_law_stall_row") spSrow := fk__law_stall_row T 0 fun vs H Q E ⟨pp, bs, R, N, m, ev, hpp, bo, n1, nm, m2, hR, h⟩ => by
  subst ev
  have l1 := bo.l1
  have l12 := bo.l2
  refine ⟨rfl, ?_⟩
  refine SeqP.l rfl (.of hpp) fun D hD => ?_
  refine lc_lst (.of hpp) (by rw [List.length_map, sizeLine_eq]; omega) hD (fun _ => some (.int 0)) (fun a ha H2 R k hR => ⟨rfl, hR _ Gr.refl⟩) (fun H2 k e => ?_)
  have e00 : (bs.map V.int).filterMap (fun _ => some (V.int 0)) = (winL bs 0).map V.int := by
    rw [filterMap_all, List.map_map]
    unfold winL
    rw [List.map_map]
    refine List.ext_getElem? fun i => ?_
    rw [List.getElem?_map, List.getElem?_map]
    by_cases hi : i < bs.length
    · simp [hi]; rfl
    · simp [hi]
  rw [e00] at e
  dsimp only [gName]
  refine seq_cutR (fun σ' H' => Gr H H' ∧ ∃ (q : Addr) (o1 o2 : Option V), H' q = some (.lst ((winL bs R).map V.int)) ∧ σ' = [some (.ref pp), some (nat R), some (nat N), some (nat m), some (.ref q), none, o1, o2, none]) (fun N' hN => ?_) ?_
  · refine ⟨_, rfl, by omega, by omega, ?_⟩
    have en : ((R : Nat) : Int).toNat = R := by omega
    rw [en]
    refine for_range (fun i σ H' => Gr H H' ∧ ∃ (q : Addr) (o1 o2 : Option V), H' q = some (.lst ((winL bs i).map V.int)) ∧ σ = [some (.ref pp), some (nat R), some (nat N), some (nat m), some (.ref q), none, o1, o2, none])
      ⟨k, D, none, none, e, rfl⟩ ?_ ?_
    · rintro i σ H3 hi ⟨k3, q, o1, o2, eq, rfl⟩
      have hpp3 := k3 _ _ hpp
      refine LenP.l (.of hpp3) ?_
      rw [List.length_map]
      refine ⟨_, rfl, by omega, by omega, fun D2 hD2 => ?_⟩
      have en : ((bs.length : Nat) : Int).toNat = bs.length := by omega
      rw [en]
      refine lc_rng (by rw [sizeLine_eq]; omega) hD2 (fun a => some (.int (cumI bs (a : Nat) (i + 1)))) (fun a ha H4 R k4 hR => ?_) (fun H4 k4 e4 => ?_)
      · refine ⟨rfl, ?_⟩
        have hq4 := k4 _ _ eq
        refine IxR'.l (.of hq4) (v := .int (cumI bs (a : Nat) i)) (at_of (j := a) (by omega) (by unfold winL; simp [ha])) ?_
        refine LenP.l (.of (k4 _ _ hpp3)) ?_
        rw [List.length_map]
        refine ⟨by omega, IxR'.l (.of (k4 _ _ hpp3)) (bat_at l1 _) ?_⟩
        have := hR H4 Gr.refl
        rw [show (0 : Int) + (a : Nat) + (0 + (i : Nat)) = (a : Nat) + (i : Nat) by omega]
        exact this
      · rw [filterMap_all] at e4
        have e5 : H4 D2 = some (.lst ((winL bs (i + 1)).map V.int)) := by
          rw [e4]
          unfold winL
          rw [List.map_map]
          rfl
        exact ⟨k3.trans k4, D2, _, _, e5, rfl⟩
    · rintro σ H3 ⟨k3, q, o1, o2, eq, rfl⟩
      exact hN _ _ ⟨k3, q, _, _, eq, rfl⟩
  · rintro σ' H3 ⟨k3, q, o1, o2, eq, rfl⟩
    have hpp3 := k3 _ _ hpp
    refine ⟨.inl ⟨rfl, _, .of eq⟩, ?_⟩
    refine MnP.l (.of eq) (by unfold winL; rw [List.length_map, List.length_range]; exact l1) fun v hv hmin => ?_
    obtain ⟨f, f1, f2⟩ := first_at hv
    have fl : f < bs.length := by
      have := (List.getElem?_eq_some_iff.mp f1).1
      unfold winL at this
      rw [List.length_map, List.length_range] at this
      exact this
    have fv : cumI bs (f : Nat) R = v := by
      unfold winL at f1
      rw [List.getElem?_map, List.getElem?_range fl] at f1
      exact Option.some.inj f1
    refine IndP.l (.of eq) rfl (List.all_eq_true.mpr fun x hx => by obtain ⟨y, _, rfl⟩ := List.mem_map.mp hx; rfl) (j := f) (z := .int v) (by rw [List.getElem?_map, f1]; rfl) (by show (v == v) = true; simp) (fun i z hi hz => ?_) ?_
    · rw [List.getElem?_map] at hz
      cases e : (winL bs R)[i]? with
      | none => rw [e] at hz; cases hz
      | some y =>
        rw [e] at hz
        cases hz
        have := f2 i y hi e
        show (y == v) = false
        simpa using this
    refine LenP.l (.of hpp3) ?_
    rw [List.length_map]
    refine ⟨by omega, ?_⟩
    obtain ⟨sh, hsh, esh⟩ := mod_f (bs := bs) l1 ((f : Int) - (m : Int) + (R : Int))
    have key : cumI bs ((N + sh + (m - N - R) : Nat) : Int) R = v := by
      rw [← fv, ← cumI_mod]
      congr 1
      have h1 : ((N + sh + (m - N - R) : Nat) : Int) = (sh : Int) + ((m : Int) - (R : Int)) := by omega
      rw [h1, ← esh, Int.emod_add_emod]
      have h2 : (f : Int) - (m : Int) + (R : Int) + ((m : Int) - (R : Int)) = (f : Int) := by omega
      rw [h2]
      exact Int.emod_eq_of_lt (by omega) (by omega)
    dsimp only [gName]
    rw [esh]
    refine ⟨(by decide : 1 ≤ sizeLine), fun q1 hq1 => ?_⟩
    have k4 : Gr H3 (upd H3 q1 (.lst [.non])) := Gr.new hq1
    refine MulR.lst [.non] upd_same (by omega) (by omega) (by show 1 * _ ≤ _; rw [sizeLine_eq]; omega) fun q2 hq2 => ?_
    have k5 := k4.trans (Gr.new (o := .lst (List.replicate ((N : Nat) : Int).toNat [V.non]).flatten) hq2)
    refine ⟨(by decide : 1 ≤ sizeLine), fun q3 hq3 => ?_⟩
    have k6 := k5.trans (Gr.new (o := .lst [.int 0]) hq3)
    refine MulR.lst [.int 0] upd_same (by omega) (by omega) (by show 1 * _ ≤ _; rw [sizeLine_eq]; omega) fun q4 hq4 => ?_
    have k7 := k6.trans (Gr.new (o := .lst (List.replicate ((sh : Nat) : Int).toNat [V.int 0]).flatten) hq4)
    have e2 : upd (upd (upd (upd H3 q1 (.lst [.non])) q2 (.lst (List.replicate ((N : Nat) : Int).toNat [V.non]).flatten)) q3 (.lst [.int 0])) q4 (.lst (List.replicate ((sh : Nat) : Int).toNat [V.int 0]).flatten) q2 = some (.lst ((List.replicate N Mv.new).map mvV)) := by
      refine (Gr.new hq4) _ _ ((Gr.new hq3) _ _ ?_)
      rw [upd_same, rep_flat, List.map_replicate]
      rfl
    refine AddR.lst ((List.replicate N Mv.new).map mvV) ((List.replicate sh (Mv.old 0)).map mvV) e2 (by rw [upd_same, rep_flat, List.map_replicate]; rfl) (by rw [List.length_map, List.length_map, List.length_replicate, List.length_replicate, sizeLine_eq]; omega) fun q5 hq5 => ?_
    revert k7 hq5
    generalize upd (upd (upd (upd H3 q1 (.lst [.non])) q2 (.lst (List.replicate ((N : Nat) : Int).toNat [V.non]).flatten)) q3 (.lst [.int 0])) q4 (.lst (List.replicate ((sh : Nat) : Int).toNat [V.int 0]).flatten) = H7
    intro k7 hq5
    have k8 := k7.trans (Gr.new (o := .lst ((List.replicate N Mv.new).map mvV ++ (List.replicate sh (Mv.old 0)).map mvV)) hq5)
    refine ⟨(by decide : 1 ≤ sizeLine), fun q6 hq6 => ?_⟩
    have k9 := k8.trans (Gr.new (o := .lst [.int ((N : Int) - 1)]) hq6)
    refine MulR.lst [.int ((N : Int) - 1)] upd_same (by omega) (by omega) (by show 1 * _ ≤ _; rw [sizeLine_eq]; omega) fun q8 hq8 => ?_
    have en : ((m : Int) - (N : Int) + 1).toNat = m - N + 1 := by omega
    rw [en]
    have ev2 : V.int ((N : Int) - 1) = nat (N - 1) := congrArg V.int (by omega)
    have k10 := k9.trans (Gr.new (o := .lst (List.replicate (m - N + 1) [V.int ((N : Int) - 1)]).flatten) hq8)
    refine AddR.lst ((List.replicate N Mv.new).map mvV ++ (List.replicate sh (Mv.old 0)).map mvV) ((List.replicate (m - N + 1) (Mv.old (N - 1))).map mvV) ((Gr.new hq8) _ _ ((Gr.new hq6) _ _ upd_same)) (by rw [upd_same, rep_flat, List.map_replicate, ev2]; rfl) (by rw [List.length_append, List.length_map, List.length_map, List.length_map, List.length_replicate, List.length_replicate, List.length_replicate, sizeLine_eq]; omega) fun q9 hq9 => ?_
    refine h q9 sh v _ (k3.trans (k10.trans (Gr.new hq9))) hsh ⟨hv, hmin⟩ key ?_
    rw [upd_same]
    unfold rowA
    have e9 : List.replicate (m - N + 1) (Mv.old (N - 1)) = List.replicate (m - N) (Mv.old (N - 1)) ++ [Mv.old (N - 1)] := List.replicate_succ'
    rw [e9]
    simp only [List.map_append, List.append_assoc]
def spMvs2 (g : Wd) : Sp := fun vs H Q _ => ∃ (sc b rp : Addr) (row : List Mv) (N sz : Nat) (n : Int) (ns : List Int), vs = [.ref sc, .ref b, .ref rp, nat N, nat sz] ∧ Dr g H sc b n ns ∧ n ≤ 10 ^ 7 ∧ H rp = some (.lst (row.map mvV)) ∧ rp ≠ b ∧ MvsOk N 0 row ∧ row.length ≤ sz ∧ sz ≤ 500 ∧ 1 ≤ N ∧ N ≤ 100 ∧ ∀ (p : Addr) (mvs : List Mv) (H' : Hp), MvsOk N 0 mvs → mvs.length ≤ 500 → Gx b H H' → H' p = some (.lst (mvs.map mvV)) → Q (.ref p) H'
theorem p_mvs2 (T : Top g) : FnG g 4 (gad g.K "_law_moves") (spMvs2 g) := fk__law_moves T 2 fun vs H Q E ⟨sc, b, rp, row, N, sz, n, ns, ev, D, hn, hrp, nrb, mo, lr, hsz, n1, n2, h⟩ => by
  subst ev
  refine ⟨rfl, LstP.l (.of hrp) fun p hp => ?_⟩
  dsimp only [gName]
  have npb := D.nb hp
  obtain ⟨_, _, D1⟩ := D.al (o := .lst (row.map mvV)) hp
  have k1 : Gx b H (upd H p (.lst (row.map mvV))) := Gx.gr (Gr.new hp)
  have e1 : upd H p (.lst (row.map mvV)) p = some (.lst (row.map mvV)) := upd_same
  have er : upd H p (.lst (row.map mvV)) rp = some (.lst (row.map mvV)) := (Gr.new hp) _ _ hrp
  revert D1 k1 e1 er
  generalize upd H p (.lst (row.map mvV)) = H1
  intro D1 k1 e1 er
  refine ⟨.inl ⟨rfl, _, .of er⟩, ?_⟩
  refine CntP.l (.of er) rfl (List.all_eq_true.mpr fun v hv => by obtain ⟨x, _, rfl⟩ := List.mem_map.mp hv; exact flat_mv x) ?_
  have ec : (((row.map mvV).countP fun z => eqV z .non : Nat) : Int) = ((row.foldl mvC 0 : Nat) : Int) := by rw [cnt_new]; simp
  rw [ec]
  dsimp only [gName]
  refine LenP.l (.of er) ?_
  rw [List.length_map]
  refine ⟨_, rfl, by omega, by omega, ?_⟩
  have en : ((sz : Int) - (row.length : Nat)).toNat = sz - row.length := by omega
  rw [en]
  refine for_range (fun i σ H' => Gx b H H' ∧ Dr g H' sc b (n + 2 * i) ns ∧ ∃ (mvs : List Mv) (o1 o2 : Option V), mvs.length = row.length + i ∧ MvsOk N 0 mvs ∧ H' p = some (.lst (mvs.map mvV)) ∧ σ = [some (.ref sc), some (.ref b), some (.ref rp), some (nat N), some (nat sz), some (.ref p), some (nat (mvs.foldl mvC 0)), o1, o2])
    ⟨k1, D1.mono (by omega), row, none, none, rfl, mo, e1, rfl⟩ ?_ ?_
  · rintro i σ H2 hi ⟨k2, D2, mvs, o1, o2, lm, mo2, e2, rfl⟩
    have hi' : (i : Int) < 500 := by omega
    refine t_take T D2 (by decide) (by omega) (by decide) (by decide) fun w H3 w0 w1 k3 D3 => ?_
    dsimp only [gName]
    have e3 := k3 _ _ npb e2
    have fl := cnt_le mo2 (Nat.zero_le _)
    have fin : ∀ (mv : Mv) H4 (D4 : Dr g H4 sc b (n + 2 * i + 2) ns) (k4 : Gx b H3 H4), MvC (mvs.foldl mvC 0) N mv → ∃ (q : H4 p = some (.lst (mvs.map mvV))), Gx b H (upd H4 p (.lst (mvs.map mvV ++ [mvV mv]))) ∧ Dr g (upd H4 p (.lst (mvs.map mvV ++ [mvV mv]))) sc b (n + 2 * (i + 1 : Nat)) ns ∧ (mvs ++ [mv]).length = row.length + (i + 1) ∧ MvsOk N 0 (mvs ++ [mv]) ∧ upd H4 p (.lst (mvs.map mvV ++ [mvV mv])) p = some (.lst ((mvs ++ [mv]).map mvV)) := fun mv H4 D4 k4 hm => by
      refine ⟨k4 _ _ npb e3, gx_upd ((k2.trans k3).trans k4) hp, (D4.up npb ((k2.trans k3).trans k4) D.sc hp).mono (by omega), by rw [List.length_append, lm]; rfl, mo2.snoc hm, by rw [upd_same, List.map_append]; rfl⟩
    refine sif1 (fun b' H' => H' = H3 ∧ (b' = true → mvs.foldl mvC 0 < N) ∧ (b' = false → 0 < mvs.foldl mvC 0)) (fun K hK => ?_) ?_
    · refine ite_i (fun q => hK _ _ ⟨rfl, fun _ => ?_, fun e => Bool.noConfusion e⟩) (fun q => ?_)
      · have := dt0 q; omega
      have q1 := df0 q
      refine ite_i (fun q2 => ?_) (fun q2 => hK _ _ ⟨rfl, fun e => Bool.noConfusion e, fun _ => by omega⟩)
      refine hK _ _ ⟨rfl, fun e => ?_, fun _ => by omega⟩
      have := of_decide_eq_true e
      omega
    · rintro b' H4 ⟨rfl, t1, t2⟩
      refine ite_i (fun q => ?_) (fun q => ?_)
      · have hm : MvC (mvs.foldl mvC 0) N .new := t1 q
        obtain ⟨f1, f2, f3, f4, f5, f6⟩ := fin .new H4 (D3.mono (by omega)) Gx.refl hm
        refine IsLst.by rfl (.of f1) (AppP.by f1 (by rw [List.length_map, sizeLine_eq]; omega) ?_)
        refine ⟨f2, f3, mvs ++ [Mv.new], some (.int (0 + (i : Nat))), some (.int w), f4, f5, f6, ?_⟩
        rw [List.foldl_append]
        rfl
      · have c0 := t2 q
        refine sif1 (fun b' H' => H' = H4 ∧ True) (fun K hK => hK _ _ ⟨rfl, trivial⟩) ?_
        rintro b'' H5 ⟨rfl, _⟩
        refine ite_i (fun q2 => ?_) (fun q2 => ?_)
        · have hm : MvC (mvs.foldl mvC 0) N (.old (mvs.foldl mvC 0 - 1)) := show _ < _ by omega
          obtain ⟨f1, f2, f3, f4, f5, f6⟩ := fin (.old (mvs.foldl mvC 0 - 1)) H5 (D3.mono (by omega)) Gx.refl hm
          refine IsLst.by rfl (.of f1) (AppP.by f1 (by rw [List.length_map, sizeLine_eq]; omega) ?_)
          have ee : V.int (((mvs.foldl mvC 0 : Nat) : Int) - 1) = mvV (.old (mvs.foldl mvC 0 - 1)) := congrArg V.int (by omega)
          rw [← ee] at f2 f3 f6
          refine ⟨f2, f3, mvs ++ [Mv.old (mvs.foldl mvC 0 - 1)], some (.int (0 + (i : Nat))), some (.int w), f4, f5, f6, ?_⟩
          rw [List.foldl_append]
          rfl
        · refine IsLst.by rfl (.of e3) ?_
          refine t_take T D3 (by decide) (by omega) (by omega) (by omega) fun d H6 d0 d1 k6 D6 => ?_
          have hm : MvC (mvs.foldl mvC 0) N (.old d.toNat) := show _ < _ by omega
          obtain ⟨f1, f2, f3, f4, f5, f6⟩ := fin (.old d.toNat) H6 (D6.mono (by omega)) k6 hm
          refine AppP.by f1 (by rw [List.length_map, sizeLine_eq]; omega) ?_
          have ee : V.int d = mvV (.old d.toNat) := congrArg V.int (by omega)
          rw [← ee] at f2 f3 f6
          refine ⟨f2, f3, mvs ++ [Mv.old d.toNat], some (.int (0 + (i : Nat))), some (.int w), f4, f5, f6, ?_⟩
          rw [List.foldl_append]
          rfl
  · rintro σ H2 ⟨k2, D2, mvs, o1, o2, lm, mo2, e2, rfl⟩
    exact h p mvs H2 mo2 (by omega) k2 e2
def spRuns2 (g : Wd) : Sp := fun vs H Q _ => ∃ (k mp du tp r : Addr) (R : Nat) (mvs : List Mv) (tl : List V) (m N : Nat) (bs : List Int), vs = [.ref k, .ref mp, .ref du, .ref tp, .ref r] ∧ OneF g "Lazy" "_mark" (R : Nat) k H ∧ H mp = some (.lst (mvs.map mvV ++ tl)) ∧ tl.all okV = true ∧ tl.length ≤ 10 ∧ mvs.length ≤ 1000 ∧ MvsOk N 0 mvs ∧ 1 ≤ N ∧ N ≤ m ∧ m ≤ 1000 ∧ H tp = some (.lst [nat m, nat N]) ∧ RoundAt g H r bs ∧ BsOk bs ∧
  (tl = [] ∨ (plG (cLz bs m R) m bs.length ("", 0) mvs).length < mvs.length) ∧ H du = some (.lst ((plG (cLz bs m R) m bs.length ("", 0) mvs).map V.str)) ∧ ∀ H', Gr H H' → Q (.bl true) H'
theorem p_runs2 (T : Top g) : FnG g 26 (gad g.K "_law_runs") (spRuns2 g) := fk__law_runs T 24 fun vs H Q E ⟨k, mp, du, tp, r, R, mvs, tl, m, N, bs, ev, hk, hmp, otl, ltl, lm, mo, n1, nm, m2, htp, hr, bo, htl, hdu, h⟩ => by
  subst ev
  have F := kf_lz T R m N bo
  obtain ⟨w0, c0⟩ := pok_nil (m := m) (N := N) (by omega) m2 n1
  obtain ⟨okW1, lenW⟩ := plG_words (cLz_le bs m R) nm bo.l1 (r := mvs) (s := ("", 0)) ⟨w0, bo.l1⟩ (by rw [c0]; exact mo)
  have okM : (mvs.map mvV ++ tl).all okV = true := by rw [List.all_append, mvs_okV, otl]; rfl
  refine ⟨rfl, LstP.l (.of hmp) fun hd hhd => ?_⟩
  dsimp only [gName]
  have k1 : Gr H (upd H hd (.lst (mvs.map mvV ++ tl))) := Gr.new hhd
  have ehd : upd H hd (.lst (mvs.map mvV ++ tl)) hd = some (.lst (mvs.map mvV ++ tl)) := upd_same
  revert k1 ehd
  generalize upd H hd (.lst (mvs.map mvV ++ tl)) = H1
  intro k1 ehd
  have htp1 := k1 _ _ htp
  refine IxR'.l (xs := [nat m, nat N]) (.of htp1) (v := nat m) (at_of (j := 0) rfl rfl) ?_
  refine IxR'.l (xs := [nat m, nat N]) (.of htp1) (v := nat N) (at_of (j := 1) rfl rfl) ?_
  refine CallP.by (p_run2 T (by decide) F) (by decide) ⟨k, hd, r, mvs, tl, rfl, hk.gr k1, ehd, lm, mo, n1, nm, m2, hr.gr k1, bo, htl, fun t H4 k4 nt et => ?_⟩
  dsimp only [gName]
  refine sif (fun b H5 => H5 = H4 ∧ b = false) (fun K hK => ?_) ?_
  · refine IsiP.lst rfl et rfl rfl ?_
    refine ite_i (fun c => Bool.noConfusion c) (fun _ => ?_)
    refine eq_flat okW1 et (k4 _ _ (k1 _ _ hdu)) ?_
    refine ite_i (fun c => Bool.noConfusion c) (fun _ => ?_)
    refine eq_flat okM (k4 _ _ ehd) (k4 _ _ (k1 _ _ hmp)) ?_
    exact hK _ _ ⟨rfl, rfl⟩
  · rintro b H5 ⟨rfl, rfl⟩
    refine ite_i (fun c => Bool.noConfusion c) (fun _ => ?_)
    dsimp only [tNext]
    refine IsLst.by rfl (.of et) ?_
    refine AppP.by et (by rw [List.length_map, sizeLine_eq]; omega) ?_
    have k5 : Gr H1 (upd H5 t (.lst ((plG (cLz bs m R) m bs.length ("", 0) mvs).map V.str ++ [.str "1"]))) := gr_upd k4 nt
    revert k5
    generalize upd H5 t (.lst ((plG (cLz bs m R) m bs.length ("", 0) mvs).map V.str ++ [.str "1"])) = H6
    intro k5
    have k15 := k1.trans k5
    refine IxR'.l (xs := [nat m, nat N]) (.of (k5 _ _ htp1)) (v := nat m) (at_of (j := 0) rfl rfl) ?_
    refine IxR'.l (xs := [nat m, nat N]) (.of (k5 _ _ htp1)) (v := nat N) (at_of (j := 1) rfl rfl) ?_
    refine CallP.by (p_run2 T (by decide) F) (by decide) ⟨k, hd, r, mvs, tl, rfl, hk.gr k15, k5 _ _ ehd, lm, mo, n1, nm, m2, hr.gr k15, bo, htl, fun t2 H7 k7 nt2 et2 => ?_⟩
    exact eq_flat okW1 et2 (k7 _ _ (k5 _ _ (k1 _ _ hdu))) (h _ (k15.trans k7))
end
end Lw
-- of law_k56_whole_lazy_edge
namespace Lw
open PySem PySem.Spec PyProof.Rows L2 Cy Tx
theorem Nd.bound {bs : List Int} (bo : ∀ b ∈ bs, 0 ≤ b) (hb : 0 < bs.length) (hs : bs.sum ≠ 0) {x k : Nat} (h : Nd bs x (k : Nat)) : x ≤ k * bs.length := Nat.not_lt.mp fun z => h.min _ z fun f hf => by
  have := turns_sum hb (f : Nat) k 0
  rw [Nat.add_zero] at this
  rw [this]
  have h1 := sum_nn' bo
  have h2 : (1 : Int) * (k : Int) ≤ bs.sum * (k : Int) := Int.mul_le_mul_of_nonneg_right (by omega) (by omega)
  have h3 : (k : Int) * bs.sum = bs.sum * (k : Int) := Int.mul_comm _ _
  have h4 : cumI bs (f : Nat) 0 = 0 := rfl
  omega
theorem rowA_ok {m N sh : Nat} (n1 : 1 ≤ N) : MvsOk N 0 (rowA m N sh ++ [Mv.old (N - 1)]) := by
  unfold rowA
  have q1 : ∀ k i, i + k ≤ N → MvsOk N i (List.replicate k .new) ∧ (List.replicate k Mv.new).foldl mvC i = i + k := fun k => by
    induction k with
    | zero => intro i _; exact ⟨trivial, rfl⟩
    | succ k ih =>
      intro i hi
      obtain ⟨a, b⟩ := ih (i + 1) (by omega)
      exact ⟨⟨show i < N by omega, a⟩, by show (List.replicate k Mv.new).foldl mvC (i + 1) = _; rw [b]; omega⟩
  have q2 : ∀ k x, x < N → MvsOk N N (List.replicate k (.old x)) ∧ (List.replicate k (Mv.old x)).foldl mvC N = N := fun k x hx => by
    induction k with
    | zero => exact ⟨trivial, rfl⟩
    | succ k ih => exact ⟨⟨hx, ih.1⟩, ih.2⟩
  obtain ⟨a1, b1⟩ := q1 N 0 (by omega)
  rw [Nat.zero_add] at b1
  obtain ⟨a2, b2⟩ := q2 sh 0 (by omega)
  obtain ⟨a3, b3⟩ := q2 (m - N) (N - 1) (by omega)
  refine ((a1.app (by rw [b1]; exact a2)).app ?_).snoc ?_
  · rw [List.foldl_append, b1, b2]; exact a3
  · rw [List.foldl_append, List.foldl_append, b1, b2, b3]
    show N - 1 < N
    omega
section
variable {g : Wd} {j : Nat} {H : Hp}
structure LgAt (g : Wd) (H : Hp) (sc b pp tp r : Addr) (bs : List Int) (m N c : Nat) (ns : List Int) : Prop where
  hpp : H pp = some (.lst (bs.map V.int))
  htp : H tp = some (.lst [nat m, nat N])
  hr : RoundAt g H r bs
  bo : BsOk bs
  pb : pp ≠ b
  tb : tp ≠ b
  n1 : 1 ≤ N
  n2 : N ≤ 20
  nd : Nd bs c ((N : Int) - 1)
  cm : N + c ≤ m
  m2 : m ≤ 300
theorem LgAt.gx {H' : Hp} {sc b pp tp r : Addr} {bs : List Int} {m N c : Nat} {n : Int} {ns : List Int} (hb : BoxAt H b n) (k : Gx b H H') (h : LgAt g H sc b pp tp r bs m N c ns) : LgAt g H' sc b pp tp r bs m N c ns :=
  ⟨k _ _ h.pb h.hpp, k _ _ h.tb h.htp, h.hr.gx k hb, h.bo, h.pb, h.tb, h.n1, h.n2, h.nd, h.cm, h.m2⟩
def spLow (g : Wd) : Sp := fun vs H Q _ => ∃ (sc b pp tp r : Addr) (bs : List Int) (m N c : Nat) (n : Int) (ns : List Int), vs = [.ref sc, .ref b, .ref pp, nat c, .ref tp, .ref r] ∧ LgAt g H sc b pp tp r bs m N c ns ∧ Dr g H sc b n ns ∧ n ≤ 10 ^ 6 ∧ 1 ≤ c ∧ ∀ H', Gx b H H' → Dr g H' sc b (n + 2) ns → Q (.bl true) H'
theorem p_low (T : Top g) : FnG g 28 (gad g.K "_law_lower") (spLow g) := fk__law_lower T 26 fun vs H Q E ⟨sc, b, pp, tp, r, bs, m, N, c, n, ns, ev, L0, D, hn, hc, h⟩ => by
  subst ev
  have hcm := L0.cm
  have hm2 := L0.m2
  have hn2 := L0.n2
  refine ⟨rfl, t_take T D (by decide) (by omega) (by omega) (by omega) fun d H1 d0 d1 k1 D1 => ?_⟩
  dsimp only [gName]
  refine seq_cutR (fun σ' H' => Gx b H H' ∧ Dr g H' sc b (n + 2) ns ∧ ∃ R : Nat, R < c ∧ σ' = [some (.ref sc), some (.ref b), some (.ref pp), some (nat c), some (.ref tp), some (.ref r), some (nat R), none, none]) (fun N' hN => ?_) ?_
  · refine t_take T D1 (by decide) (by omega) (by decide) (by decide) fun d2 H2 _ _ k2 D2 => ite_i (fun q => ?_) (fun q => ?_)
    · have a1 := hN [some (.ref sc), some (.ref b), some (.ref pp), some (nat c), some (.ref tp), some (.ref r), some (nat (c - 1)), none, none] H2 ⟨k1.trans k2, D2.mono (by omega), _, by omega, rfl⟩
      have e : nat (c - 1) = V.int ((c : Int) - 1) := congrArg V.int (by omega)
      rw [e] at a1
      exact a1
    · have a1 := hN [some (.ref sc), some (.ref b), some (.ref pp), some (nat c), some (.ref tp), some (.ref r), some (nat d.toNat), none, none] H2 ⟨k1.trans k2, D2.mono (by omega), _, by omega, rfl⟩
      have e : nat d.toNat = V.int d := congrArg V.int (by omega)
      rw [e] at a1
      exact a1
  rintro σ' H2 ⟨k2, D2, R, hR, rfl⟩
  have L2 := L0.gx D.bx k2
  obtain ⟨hpp, htp, hr, bo, _, _, n1, n2, nd, cm, m2⟩ := id L2
  have nm : N ≤ m := by omega
  refine IxR'.l (xs := [nat m, nat N]) (.of htp) (v := nat N) (at_of (j := 1) rfl rfl) ?_
  refine IxR'.l (xs := [nat m, nat N]) (.of htp) (v := nat m) (at_of (j := 0) rfl rfl) ?_
  refine CallP.by (p_srow T) (by decide) ⟨pp, bs, R, N, m, rfl, hpp, bo, n1, nm, by omega, by omega, fun rp sh v H3 k3 hsh lw ecum hrp => ?_⟩
  have hv : v < (N : Int) - 1 := Int.not_le.mp fun z => nd.min R hR (lw.iff.mp z)
  have hl12 := bo.l2
  obtain ⟨⟨t, e1, e2⟩, mo⟩ := row_stalls (R := R) (sh := sh) bo.nn bo.l1 nm n1 (by omega) (by rw [Nat.min_eq_left (by omega), ecum]; exact hv)
  have lrow : (rowA m N sh).length = m + sh := by unfold rowA; rw [List.length_append, List.length_append, List.length_replicate, List.length_replicate, List.length_replicate]; omega
  dsimp only [gName]
  have htp3 := k3 _ _ htp
  refine IxR'.l (xs := [nat m, nat N]) (.of htp3) (v := nat m) (at_of (j := 0) rfl rfl) ?_
  refine IxR'.l (xs := [nat m, nat N]) (.of htp3) (v := nat N) (at_of (j := 1) rfl rfl) ?_
  refine CallP.by (p_play2 T) (by decide) ⟨rp, pp, _, R, m, N, bs, rfl, hrp, by rw [List.length_append, lrow]; simp; omega, mo, nm, n1, by omega, k3 _ _ hpp, bo, fun du H4 k4 hdu => ?_⟩
  dsimp only [gName]
  refine sif (fun b0 H5 => H5 = H4 ∧ b0 = false) (fun K hK => ?_) ?_
  · refine LenP.l (.of hdu) ?_
    refine LenP.l (.of (k4 _ _ hrp)) ?_
    rw [List.length_map, List.length_map, (plG_stl e1 e2).2, List.length_append]
    have e3 : (true != decide ((((rowA m N sh).length : Nat) : Int) = (((rowA m N sh).length + [Mv.old (N - 1)].length : Nat) : Int) - 1)) = false := by
      rw [show (((rowA m N sh).length + [Mv.old (N - 1)].length : Nat) : Int) - 1 = ((rowA m N sh).length : Nat) by show (((rowA m N sh).length + 1 : Nat) : Int) - 1 = _; omega]
      simp
    show K (true != decide ((((rowA m N sh).length : Nat) : Int) = (((rowA m N sh).length + [Mv.old (N - 1)].length : Nat) : Int) - 1)) H4
    rw [e3]
    exact hK _ _ ⟨rfl, rfl⟩
  · rintro b0 H5 ⟨rfl, rfl⟩
    refine ite_i (fun z => Bool.noConfusion z) (fun _ => ?_)
    dsimp only [tNext]
    refine mk_lz T (by decide) (by omega) fun k H6 k6 nk hk => ?_
    have k36 := (k3.trans k4).trans k6
    have htp6 := k36 _ _ htp
    refine IxR'.l (xs := [nat m, nat N]) (.of htp6) (v := nat N) (at_of (j := 1) rfl rfl) ?_
    refine ⟨(by decide : 3 ≤ sizeLine), fun q1 hq1 => ?_⟩
    have k7 : Gr H6 (upd H6 q1 (.lst [.int (-1), nat N, .non])) := Gr.new hq1
    refine AddR.lst ((rowA m N sh ++ [Mv.old (N - 1)]).map mvV) [.int (-1), nat N, .non] (k7 _ _ (k6 _ _ (k4 _ _ hrp))) upd_same (by rw [List.length_map, List.length_append, lrow, sizeLine_eq]; simp; omega) fun q2 hq2 => ?_
    have k8 := k7.trans (Gr.new (o := .lst ((rowA m N sh ++ [Mv.old (N - 1)]).map mvV ++ [.int (-1), nat N, .non])) hq2)
    have k38 := k36.trans k8
    refine CallP.by (p_runs2 T) (by decide) ⟨k, q2, du, tp, r, R, rowA m N sh ++ [Mv.old (N - 1)], [.int (-1), nat N, .non], m, N, bs, rfl, hk.gr k8, upd_same, rfl, by simp, by rw [List.length_append, lrow]; simp; omega, mo, n1, nm, by omega, k38 _ _ htp, hr.gr k38, bo, .inr ?_, k8 _ _ (k6 _ _ hdu), fun H9 k9 => ?_⟩
    · rw [(plG_stl e1 e2).2, List.length_append]; simp
    · exact h H9 (k2.trans (Gx.gr (k38.trans k9))) (D2.gr (k38.trans k9))
theorem p_high (T : Top g) : FnG g 28 (gad g.K "_law_higher") (fun vs H Q _ => ∃ (sc b pp tp r : Addr) (bs : List Int) (m N c : Nat) (n : Int) (ns : List Int), vs = [.ref sc, .ref b, .ref pp, nat c, .ref tp, .ref r] ∧ LgAt g H sc b pp tp r bs m N c ns ∧ Dr g H sc b n ns ∧ n ≤ 10 ^ 6 ∧ ∀ H', Gx b H H' → Q (.bl true) H') := fk__law_higher T 26 fun vs H Q E ⟨sc, b, pp, tp, r, bs, m, N, c, n, ns, ev, L0, D, hn, h⟩ => by
  subst ev
  have hcm := L0.cm
  have hm2 := L0.m2
  have hn2 := L0.n2
  have bo := L0.bo
  have hl12 := bo.l2
  have n1 := L0.n1
  have nm : N ≤ m := by omega
  refine ⟨rfl, ?_⟩
  refine seq_cutR (fun σ' H' => Gx b H H' ∧ Dr g H' sc b (n + 1) ns ∧ ∃ R : Nat, c ≤ R ∧ R ≤ c + 30 ∧ σ' = [some (.ref sc), some (.ref b), some (.ref pp), some (nat c), some (.ref tp), some (.ref r), some (nat R), none, none, none, none]) (fun N' hN => ?_) ?_
  · refine t_pick T (l := [0, 0, 1, 30]) D (by decide) (by omega) (by decide) (by decide) fun v H1 hv k1 D1 => ?_
    have hv2 : 0 ≤ v ∧ v ≤ 30 := by
      simp only [List.mem_cons, List.not_mem_nil, or_false] at hv
      omega
    have a1 := hN [some (.ref sc), some (.ref b), some (.ref pp), some (nat c), some (.ref tp), some (.ref r), some (nat ((c : Int) + v).toNat), none, none, none, none] H1 ⟨k1, D1, _, by omega, by omega, rfl⟩
    have e : nat ((c : Int) + v).toNat = V.int ((c : Int) + v) := congrArg V.int (by omega)
    rw [e] at a1
    exact a1
  rintro σ' H1 ⟨k1, D1, R, hR, hR2, rfl⟩
  refine ⟨(by decide : 0 ≤ sizeLine), fun rp0 hrp0 => ?_⟩
  dsimp only [gName]
  have L1 := L0.gx D.bx k1
  have k1' : Gr H1 (upd H1 rp0 (.lst [])) := Gr.new hrp0
  have D1' := D1.gr k1'
  have erp0 : upd H1 rp0 (.lst []) rp0 = some (.lst (([] : List Mv).map mvV)) := upd_same
  have nrb0 := D1.nb hrp0
  have L1' := L1.gx D1.bx (Gx.gr k1')
  have k01 := k1.trans (Gx.gr k1')
  revert D1' erp0 L1' k01
  generalize upd H1 rp0 (.lst []) = H2
  intro D1' erp0 L1' k01
  refine seq_cutR (fun σ' H' => Gx b H H' ∧ Dr g H' sc b (n + 2) ns ∧ LgAt g H' sc b pp tp r bs m N c ns ∧ ∃ (rp : Addr) (row : List Mv), H' rp = some (.lst (row.map mvV)) ∧ rp ≠ b ∧ MvsOk N 0 row ∧ row.length ≤ 400 ∧ σ' = [some (.ref sc), some (.ref b), some (.ref pp), some (nat c), some (.ref tp), some (.ref r), some (nat R), some (.ref rp), none, none, none]) (fun N' hN => ?_) ?_
  · refine t_take T D1' (by decide) (by omega) (by decide) (by decide) fun d H3 _ _ k3 D3 => ?_
    have L3 := L1'.gx D1'.bx k3
    refine ite_i (fun q => ?_) (fun q => hN _ _ ⟨k01.trans k3, D3.mono (by omega), L3, rp0, [], k3 _ _ nrb0 erp0, nrb0, trivial, by simp, rfl⟩)
    obtain ⟨hpp, htp, hr, _, _, _, _, _, nd, cm, m2⟩ := id L3
    refine IxR'.l (xs := [nat m, nat N]) (.of htp) (v := nat N) (at_of (j := 1) rfl rfl) ?_
    refine IxR'.l (xs := [nat m, nat N]) (.of htp) (v := nat m) (at_of (j := 0) rfl rfl) ?_
    have e : V.int (max 0 ((c : Int) - 1)) = nat (c - 1) := congrArg V.int (by omega)
    show CallP _ _ _ [.ref pp, .int (max 0 ((c : Int) - 1)), nat N, nat m] _ _ _
    rw [e]
    refine CallP.by (p_srow T) (by decide) ⟨pp, bs, c - 1, N, m, rfl, hpp, bo, n1, nm, by omega, by omega, fun rp sh v H4 k4 hsh lw ecum hrp => ?_⟩
    have lrow : (rowA m N sh ++ [Mv.old (N - 1)]).length = m + sh + 1 := by unfold rowA; rw [List.length_append, List.length_append, List.length_append, List.length_replicate, List.length_replicate, List.length_replicate]; simp; omega
    have mo : MvsOk N 0 (rowA m N sh ++ [Mv.old (N - 1)]) := rowA_ok n1
    refine hN _ _ ⟨(k01.trans k3).trans (Gx.gr k4), (D3.gr k4).mono (by omega), L3.gx D3.bx (Gx.gr k4), rp, _, hrp, fun e => ?_, mo, by omega, rfl⟩
    obtain ⟨b0, b1, b2, b3, z, _⟩ := (D3.gr k4).bx
    rw [e, z] at hrp
    have h5 := HO.lst.inj (Option.some.inj hrp)
    have h6 := congrArg List.head? h5
    unfold rowA at h6
    obtain ⟨N0, rfl⟩ : ∃ N0, N = N0 + 1 := ⟨N - 1, by omega⟩
    rw [List.replicate_succ] at h6
    cases h6
  rintro σ' H3 ⟨k3, D3, L3, rp, row, hrp, nrb, mo, lr, rfl⟩
  refine seq_cutR (fun σ' H' => Gx b H3 H' ∧ Dr g H' sc b (n + 4) ns ∧ ∃ sz : Nat, row.length ≤ sz ∧ sz ≤ 500 ∧ σ' = [some (.ref sc), some (.ref b), some (.ref pp), some (nat c), some (.ref tp), some (.ref r), some (nat R), some (.ref rp), some (nat sz), none, none]) (fun N' hN => ?_) ?_
  · refine LenP.l (.of hrp) ?_
    rw [List.length_map]
    refine t_take T D3 (by decide) (by omega) (by decide) (by decide) fun d H4 d0 d1 k4 D4 => ?_
    obtain ⟨w, hw⟩ : ∃ w : Int, w = 1 + d := ⟨_, rfl⟩
    refine t_pick T (l := [64, 1 + d]) D4 (by decide) (by omega) (by simp) (by simp) fun v H5 hv k5 D5 => ?_
    have hv2 : 1 ≤ v ∧ v ≤ 64 := by
      simp only [List.mem_cons, List.not_mem_nil, or_false] at hv
      omega
    have a1 := hN [some (.ref sc), some (.ref b), some (.ref pp), some (nat c), some (.ref tp), some (.ref r), some (nat R), some (.ref rp), some (nat (max (row.length : Int) v).toNat), none, none] H5 ⟨k4.trans k5, D5.mono (by omega), _, by omega, by omega, rfl⟩
    have e : nat (max (row.length : Int) v).toNat = V.int (max (row.length : Int) v) := congrArg V.int (by omega)
    rw [e] at a1
    exact a1
  rintro σ' H4 ⟨k4, D4, sz, hs1, hs2, rfl⟩
  have L4 := L3.gx D3.bx k4
  refine IxR'.l (xs := [nat m, nat N]) (.of L4.htp) (v := nat N) (at_of (j := 1) rfl rfl) ?_
  refine CallP.by (p_mvs2 T) (by decide) ⟨sc, b, rp, row, N, sz, _, ns, rfl, D4, by omega, k4 _ _ nrb hrp, nrb, mo, hs1, hs2, n1, by omega, fun mp mvs H5 mo5 lm k5 hmp => ?_⟩
  dsimp only [gName]
  have L5 := L4.gx D4.bx k5
  obtain ⟨hpp, htp, hr, _, _, _, _, _, nd, cm, m2⟩ := id L5
  refine IxR'.l (xs := [nat m, nat N]) (.of htp) (v := nat m) (at_of (j := 0) rfl rfl) ?_
  refine IxR'.l (xs := [nat m, nat N]) (.of htp) (v := nat N) (at_of (j := 1) rfl rfl) ?_
  refine CallP.by (p_play2 T) (by decide) ⟨mp, pp, mvs, R, m, N, bs, rfl, hmp, by omega, mo5, nm, n1, by omega, hpp, bo, fun du H6 k6 hdu => ?_⟩
  dsimp only [gName]
  have hall := lz_forever (R := R) (r := c) bo.nn bo.l1 n1 nm (by omega) nd.ok (by omega) hR mo5
  have elen := plG_full hall
  refine sif (fun b0 H7 => H7 = H6 ∧ b0 = false) (fun K hK => ?_) ?_
  · refine LenP.l (.of hdu) ?_
    refine LenP.l (.of (k6 _ _ hmp)) ?_
    rw [List.length_map, List.length_map, elen]
    have e3 : (true != decide (((mvs.length : Nat) : Int) = ((mvs.length : Nat) : Int))) = false := by simp
    show K (true != decide (((mvs.length : Nat) : Int) = ((mvs.length : Nat) : Int))) H6
    rw [e3]
    exact hK _ _ ⟨rfl, rfl⟩
  · rintro b0 H7 ⟨rfl, rfl⟩
    refine ite_i (fun z => Bool.noConfusion z) (fun _ => ?_)
    dsimp only [tNext]
    refine mk_lz T (by decide) (by omega) fun k H8 k8 nk hk => ?_
    have k68 := k6.trans k8
    refine CallP.by (p_runs2 T) (by decide) ⟨k, mp, du, tp, r, R, mvs, [], m, N, bs, rfl, hk, by rw [List.append_nil]; exact k68 _ _ hmp, rfl, by simp, by omega, mo5, n1, nm, by omega, k68 _ _ htp, hr.gr k68, bo, .inl rfl, k8 _ _ hdu, fun H9 k9 => ?_⟩
    exact h H9 (((k3.trans k4).trans k5).trans (Gx.gr (k68.trans k9)))
end
end Lw
-- of law_k56_whole_lazy_edge
namespace Lw
open PySem PySem.Spec PyProof.Rows L2 Cy Tx
section
variable {g : Wd} {j : Nat} {H : Hp}
theorem Dr.other {H' : Hp} {sc b b' : Addr} {n n' : Int} {ns : List Int} (D : Dr g H sc b n ns) (D' : Dr g H sc b' n' ns) (k : Gx b' H H') (ne : b ≠ b') : Dr g H' sc b n ns := ⟨D.len, by
  rcases D.sc with ⟨_, nsb⟩ | z
  · rcases D'.sc.gx k with ⟨hr, _⟩ | z
    · exact .inl ⟨hr, nsb⟩
    · exact .inr z
  · exact .inr z, by
  obtain ⟨b0, b1, b2, b3, z0, z⟩ := D.bx
  exact ⟨b0, b1, b2, b3, k _ _ ne z0, z⟩⟩
def spLarge (g : Wd) : Sp := fun vs H Q _ => ∃ (sc b1 b2 : Addr) (ns : List Int), vs = [.ref sc, .ref b1, .ref b2] ∧ Dr g H sc b1 0 ns ∧ Dr g H sc b2 0 ns ∧ b2 ≠ b1 ∧ ∀ H', Q (.bl true) H'
theorem p_large (T : Top g) : FnG g 30 (gad g.K "_law_large") (spLarge g) := fk__law_large T 28 fun vs H Q E ⟨sc, b1, b, ns, ev, Da, Db, nbb, h⟩ => by
  subst ev
  refine ⟨rfl, CallP.by (p_pays T) (by decide) ⟨sc, b1, 12, 0, ns, rfl, Da, by decide, by decide, by decide, fun pp bs H1 bu npp k1 D1 hpp => ?_⟩⟩
  have Db1 := Db.other Da k1 nbb
  have nppb := Db.nb npp
  dsimp only [gName]
  refine seq_cutR (fun σ' H' => Gr H1 H' ∧ ∃ (pp : Addr) (bs : List Int), pp ≠ b ∧ H' pp = some (.lst (bs.map V.int)) ∧ BsOk bs ∧ bs.sum ≠ 0 ∧ σ' = [some (.ref sc), some (.ref b1), some (.ref b), some (.ref pp), none, none, none, none, none, none]) (fun N' hN => ?_) ?_
  · refine SumP.l (.of hpp) ?_
    refine ite_i (fun q => ?_) (fun q => ?_)
    · refine ⟨(by decide : 1 ≤ sizeLine), fun q1 hq1 => ?_⟩
      have k2 : Gr H1 (upd H1 q1 (.lst [.int 1])) := Gr.new hq1
      obtain ⟨l2, e2, l2l, l2m⟩ := cut_map bs (some 1) none
      have e2b : l2 = bs.drop 1 := by
        have : cutV (bs.map V.int) (some 1) none = (bs.drop 1).map V.int := by
          rw [show (1 : Int) = ((1 : Nat) : Int) from rfl]
          unfold cutV
          rw [HT.sIx_none, HT.sIx_nat, List.length_map, Nat.min_eq_left bu.l1, List.map_drop]
          exact List.take_of_length_le (by rw [List.length_drop, List.length_map]; exact Nat.le_refl _)
        rw [this] at e2
        exact (map_int_inj e2).symm
      refine SlP.l (.of (k2 _ _ hpp)) fun q2 hq2 => ?_
      rw [e2]
      have k3 := k2.trans (Gr.new (o := .lst (l2.map V.int)) hq2)
      have l2n : l2.length ≤ 11 := by rw [e2b, List.length_drop]; have := bu.l2; omega
      refine AddR.lst [.int 1] (l2.map V.int) ((Gr.new hq2) _ _ upd_same) upd_same (by rw [List.length_map, sizeLine_eq]; simp; omega) fun q3 hq3 => ?_
      have k4 := k3.trans (Gr.new (o := .lst ([.int 1] ++ l2.map V.int)) hq3)
      have hb3 : q3 ≠ b := fun e => by
        obtain ⟨o, z⟩ := Db1.bx.some
        rw [e, k3 _ _ z] at hq3
        cases hq3
      have nn2 : ∀ x ∈ l2, 0 ≤ x ∧ x ≤ 20 := fun x hx => bu.nn x (l2m x hx)
      refine hN _ _ ⟨k4, q3, 1 :: l2, hb3, upd_same, ⟨by simp, by simp; omega, fun x hx => ?_, fun x hx => ?_⟩, ?_, rfl⟩
      · rcases List.mem_cons.mp hx with rfl | hx
        · omega
        · exact (nn2 x hx).1
      · rcases List.mem_cons.mp hx with rfl | hx
        · decide
        · exact Int.le_trans (nn2 x hx).2 (by decide)
      · rw [List.sum_cons]
        have := sum_nn' (l := l2) fun x hx => (nn2 x hx).1
        omega
    · exact hN _ _ ⟨Gr.refl, pp, bs, nppb, hpp, bu.ok (by decide), df0 q, rfl⟩
  clear nppb npp hpp bu
  rintro σ' H2 ⟨k2, pp, bs, nppb, hpp, bo, hsum, rfl⟩
  have l1 := bo.l1
  have l12 := bo.l2
  have Db2 := Db1.gr k2
  refine CallP.by (p_reas T) (by decide) ⟨pp, bs, 20, rfl, hpp, bo, hsum, by decide, fun fp fs H3 k3 lf nd hfp => ?_⟩
  dsimp only [gName]
  have Db3 := Db2.gr k3
  have nfb : fp ≠ b := fun e => by
    obtain ⟨b0, c1, c2, c3, z, _⟩ := Db3.bx
    rw [e, z] at hfp
    have h5 := congrArg List.length (HO.lst.inj (Option.some.inj hfp))
    rw [List.length_map, lf] at h5
    cases h5
  refine seq_cutR (fun σ' H' => Gx b H3 H' ∧ Dr g H' sc b 1 ns ∧ ∃ N : Nat, 1 ≤ N ∧ N ≤ 20 ∧ σ' = [some (.ref sc), some (.ref b1), some (.ref b), some (.ref pp), some (.ref fp), some (nat N), none, none, none, none]) (fun N' hN => ?_) ?_
  · refine t_take T Db3 (by decide) (by omega) (by decide) (by decide) fun d H4 d0 d1 k4 D4 => ?_
    have a1 := hN [some (.ref sc), some (.ref b1), some (.ref b), some (.ref pp), some (.ref fp), some (nat (1 + d).toNat), none, none, none, none] H4 ⟨k4, D4.mono (by omega), _, by omega, by omega, rfl⟩
    have e : nat (1 + d).toNat = V.int (1 + d) := congrArg V.int (by omega)
    rw [e] at a1
    exact a1
  rintro σ' H4 ⟨k4, D4, N0, n01, n02, rfl⟩
  have hfp4 := k4 _ _ nfb hfp
  have hpp4 := k4 _ _ nppb (k3 _ _ hpp)
  refine seq_cutR (fun σ' H' => H' = H4 ∧ ∃ (N : Nat) (o : Option V), 1 ≤ N ∧ N ≤ 20 ∧ σ' = [some (.ref sc), some (.ref b1), some (.ref b), some (.ref pp), some (.ref fp), some (nat N), o, none, none, none]) (fun N' hN => ?_) ?_
  · refine ⟨20, rfl, by decide, by decide, ?_⟩
    refine for_range (n := 20) (fun i σ H' => H' = H4 ∧ ∃ (N : Nat) (o : Option V), 1 ≤ N ∧ N ≤ 20 ∧ σ = [some (.ref sc), some (.ref b1), some (.ref b), some (.ref pp), some (.ref fp), some (nat N), o, none, none, none]) ⟨rfl, N0, none, n01, n02, rfl⟩ ?_ ?_
    · rintro i σ H5 hi ⟨rfl, N, o, h1, h2, rfl⟩
      have hl : N - 1 < fs.length := by omega
      refine IxR'.l (.of hfp4) (v := nat fs[N - 1]) (at_of (j := N - 1) (by omega) (by simp [hl])) ?_
      refine ite_i (fun q => ?_) (fun q => ⟨rfl, N, _, h1, h2, rfl⟩)
      have q1 := of_decide_eq_true q
      have hN1 : 1 < N := by
        refine Nat.lt_of_not_le fun z => ?_
        have e1 : N = 1 := by omega
        subst e1
        have nd0 := nd 0 fs[0] (by simp)
        have := nd0.bound bo.nn l1 hsum
        have e2 : fs[1 - 1] = fs[0] := rfl
        rw [e2] at q1
        omega
      refine ⟨rfl, N - 1, some (.int (0 + (i : Nat))), by omega, by omega, ?_⟩
      exact congrArg (fun v : Int => [some (V.ref sc), some (V.ref b1), some (V.ref b), some (V.ref pp), some (V.ref fp), some (V.int v), some (V.int (0 + (i : Nat))), none, none, none]) (show (N : Int) - 1 = ((N - 1 : Nat) : Int) by omega)
    · rintro σ H5 ⟨rfl, N, o, h1, h2, rfl⟩
      exact hN _ _ ⟨rfl, N, o, h1, h2, rfl⟩
  rintro σ' H5 ⟨rfl, N, o, n1, n2, rfl⟩
  have hl : N - 1 < fs.length := by omega
  have nd1 := nd (N - 1) fs[N - 1] (by simp [hl])
  have bnd := nd1.bound bo.nn l1 hsum
  have e2 : ((N - 1 : Nat) : Int) = (N : Int) - 1 := by omega
  rw [e2] at nd1
  have bnd2 : fs[N - 1] ≤ 228 := Nat.le_trans bnd (Nat.le_trans (Nat.mul_le_mul (show N - 1 ≤ 19 by omega) l12) (by decide))
  refine IxR'.l (.of hfp4) (v := nat fs[N - 1]) (at_of (j := N - 1) (by omega) (by simp [hl])) ?_
  generalize fs[N - 1] = c at *
  dsimp only [gName]
  refine seq_cutR (fun σ' H' => Gx b H5 H' ∧ Dr g H' sc b 2 ns ∧ ∃ m : Nat, N + c ≤ m ∧ m ≤ 300 ∧ σ' = [some (.ref sc), some (.ref b1), some (.ref b), some (.ref pp), some (.ref fp), some (nat N), o, some (nat c), some (nat m), none]) (fun N' hN => ?_) ?_
  · refine t_take T D4 (by decide) (by omega) (by decide) (by decide) fun d H6 d0 d1 k6 D6 => ?_
    have a1 := hN [some (.ref sc), some (.ref b1), some (.ref b), some (.ref pp), some (.ref fp), some (nat N), o, some (nat c), some (nat ((N : Int) + (c : Int) + d).toNat), none] H6 ⟨k6, D6.mono (by omega), _, by omega, by omega, rfl⟩
    have e : nat ((N : Int) + (c : Int) + d).toNat = V.int ((N : Int) + (c : Int) + d) := congrArg V.int (by omega)
    rw [e] at a1
    exact a1
  rintro σ' H6 ⟨k6, D6, m, hm1, hm2, rfl⟩
  have hpp6 := k6 _ _ nppb hpp4
  refine CallP.by (p_round T) (by decide) ⟨pp, bs, rfl, hpp6, bo, fun r H7 k7 ra => ?_⟩
  dsimp only [gName]
  refine sif (fun b0 H' => Gr H7 H' ∧ b0 = false) (fun K hK => ?_) ?_
  · exact CallP.by (p_edge T) (by decide) ⟨r, pp, bs, m, N, rfl, ra, k7 _ _ hpp6, bo, n1, by omega, by omega, by omega, fun H8 k8 => hK _ _ ⟨k8, rfl⟩⟩
  rintro b0 H8 ⟨k8, rfl⟩
  refine ite_i (fun z => Bool.noConfusion z) (fun _ => ?_)
  dsimp only [tNext]
  have hpp8 := k8 _ _ (k7 _ _ hpp6)
  have ra8 := ra.gr k8
  have D8 := (D6.gr k7).gr k8
  refine sif (fun b0 H' => Gx b H8 H' ∧ Dr g H' sc b 4 ns ∧ b0 = false) (fun K hK => ?_) ?_
  · refine ite_i (fun q => ?_) (fun q => hK _ _ ⟨Gx.refl, D8.mono (by omega), rfl⟩)
    have q1 := of_decide_eq_true q
    refine ⟨(by decide : 2 ≤ sizeLine), fun tp htp => ?_⟩
    have kt : Gr H8 (upd H8 tp (.lst [nat m, nat N])) := Gr.new htp
    refine CallP.by (p_low T) (by decide) ⟨sc, b, pp, tp, r, bs, m, N, c, _, ns, rfl, ⟨kt _ _ hpp8, upd_same, ra8.gr kt, bo, nppb, D8.nb htp, n1, n2, nd1, hm1, hm2⟩, D8.gr kt, by omega, by omega, fun H9 k9 D9 => hK _ _ ⟨(Gx.gr kt).trans k9, D9.mono (by omega), rfl⟩⟩
  rintro b0 H9 ⟨k9, D9, rfl⟩
  refine ite_i (fun z => Bool.noConfusion z) (fun _ => ?_)
  dsimp only [tNext]
  have hpp9 := k9 _ _ nppb hpp8
  have ra9 := ra8.gx k9 D8.bx
  refine ⟨(by decide : 2 ≤ sizeLine), fun tp htp => ?_⟩
  have kt : Gr H9 (upd H9 tp (.lst [nat m, nat N])) := Gr.new htp
  refine CallP.by (p_high T) (by decide) ⟨sc, b, pp, tp, r, bs, m, N, c, _, ns, rfl, ⟨kt _ _ hpp9, upd_same, ra9.gr kt, bo, nppb, D9.nb htp, n1, n2, nd1, hm1, hm2⟩, D9.gr kt, by omega, fun H10 k10 => ?_⟩
  have hpp10 := k10 _ _ nppb (kt _ _ hpp9)
  obtain ⟨dr2, tr, i1, i2⟩ := (ra9.gr kt).gx k10 (D9.gr kt).bx
  refine PropP.by rfl i1 (cl_Round T) (pr_Round_budgets T) (p_rbud T) (by decide) ⟨r, bs, rfl, ⟨dr2, tr, i1, i2⟩, fun q hq => ?_⟩
  exact eq_ints upd_same ((Gr.new hq) _ _ hpp10) (h _)
def spLaw (g : Wd) : Sp := fun vs H Q _ => ∃ (a : Addr) (ns : List Int), vs = [.ref a] ∧ ns.length ≤ 63 ∧ SqL g.K H a (ns.map V.int) ∧ ∀ H', Q (.bl true) H'
theorem ok_the_law (T : Top g) {fd : FuncData} (F : FunD g.K "law" "law" (defArgs (top 67)) (defBody (top 67)) (defScope (top 67)) [] [] (gad g.K "law") fd) :
    FnOk g.P g.w g.K g.mg g.base (L2.CX g.P g.w) 32 (gad g.K "law") fd ["_law_script"] (spLaw g) := ok_law T F (j := 30) fun vs H Q E ⟨sc, ns, ev, hl, hsq, h⟩ => by
  subst ev
  refine ⟨rfl, ?_⟩
  refine sif (fun b0 H' => SqL g.K H' sc (ns.map V.int) ∧ b0 = false) (fun K hK => ?_) ?_
  · refine CallP.by (p_box T) (by decide) ⟨sc, 0, ns, rfl, hl, hsq, by decide, by decide, fun b H1 k1 nb hb => ?_⟩
    have D1 : Dr g H1 sc b 0 ns := ⟨hl, Sc.new hsq k1 nb, hb⟩
    exact CallP.by (p_small T) (by decide) ⟨sc, b, ns, rfl, D1, fun H2 k2 => hK _ _ ⟨(D1.sc.gx k2).sq, rfl⟩⟩
  rintro b0 H2 ⟨hsq2, rfl⟩
  refine ite_i (fun z => Bool.noConfusion z) (fun _ => ?_)
  dsimp only [tNext]
  refine CallP.by (p_box T) (by decide) ⟨sc, 1, ns, rfl, hl, hsq2, by decide, by decide, fun b1 H3 k3 nb1 hb1 => ?_⟩
  have Da : Dr g H3 sc b1 0 ns := ⟨hl, Sc.new hsq2 k3 nb1, hb1⟩
  refine CallP.by (p_box T) (by decide) ⟨sc, 2, ns, rfl, hl, Da.sc.sq, by decide, by decide, fun b2 H4 k4 nb2 hb2 => ?_⟩
  have Db : Dr g H4 sc b2 0 ns := ⟨hl, Sc.new Da.sc.sq k4 nb2, hb2⟩
  exact CallP.by (p_large T) (by decide) ⟨sc, b1, b2, ns, rfl, Da.gr k4, Db, Da.nb nb2, fun H5 => h H5⟩
end
end Lw
namespace Hd
open PySem PySem.Spec PyProof.Rows L2 Cy
/-- what a def lets out, in some world -/
def cxA (P : Program) : CXT := fun outer H s E e s' => ∃ w, L2.CX P w outer H s E e s'
theorem ok_cx {P : Program} {w : World} {K : PySem.W.Frag} {mg : Str → Option Value} {base : Heap} {k : Nat} {f : Addr} {fd : FuncData} {ps : List Str} {sp : Sp} (F : FnOk P w K mg base (L2.CX P w) k f fd ps sp) : FnOk P w K mg base (cxA P) k f fd ps sp :=
  ⟨F.len, fun A outer s H args us vs Q E hr e0 hb r hs => codeAny_mono (F.run A outer s H args us vs Q E hr e0 hb r hs) fun z s' q => by
    cases z with
    | error e => exact ⟨w, q⟩
    | ok fl =>
      cases fl with
      | ret u => exact q
      | next => exact q
      | brk => exact q
      | cont => exact q⟩
end Hd
open PySem PySem.W PySem.Calls PyProof.Rows
set_option maxHeartbeats 0 in
theorem PySem.Challenge.cw_carrylog_k56_whole_lazy_edge_holds : PySem.Challenge.rw_carrylog_k56_whole_lazy_edge.Holds := by
  w_on; o_law
  refine HandSHeadRun.head_any (r := OpenLaw.row PySem.Challenge.rw_carrylog_k56_whole_lazy_edge) (q := view (OpenLaw.row PySem.Challenge.rw_carrylog_k56_whole_lazy_edge).prog [67]) (H := Hd.hk) (ob := Hd.ob) (M := 40000) (loose := Hd.loose) (d := HandSHeadRun.topDef (OpenLaw.row PySem.Challenge.rw_carrylog_k56_whole_lazy_edge).prog 67) (kwd := []) Hd.ob_eq
    (by kernel_rfl) (fun s => by kernel_rfl) Hd.run (by kernel_rfl) (by kernel_rfl) (by kernel_rfl) (by rfl) (by first | assumption | decide +kernel) (by decide +kernel) ⟨rfl, rfl, rfl, rfl, rfl, by decide +kernel⟩ ?hw ?hc
  case hw => w_witness2
  case hc =>
    refine L2.walk_ofE (l := PySem.Challenge.rw_carrylog_k56_whole_lazy_edge) (n := 63) (k := 32) (x := "_law_script") (CX := Hd.cxA PySem.Challenge.pw_carrylog_k56_whole_lazy_edge) rfl (by decide) (by kernel_rfl) ⟨rfl, by decide, by decide⟩ ?F (fun _ _ _ _ z => by
      obtain ⟨w, _, _, _, _, _, _, _, _, _, _, _, _, z⟩ := z
      exact z)
    intro w mg fa h Y G hmg0
    obtain ⟨K, KX, c⟩ := Y
    have hmg : mg ("law" : PySem.Str) = some (.ref fa) := by
      have e : (HandSHeadRun.topDef (OpenLaw.row PySem.Challenge.rw_carrylog_k56_whole_lazy_edge).prog 67).name = ("law" : PySem.Str) := by kernel_rfl
      rw [← e]
      exact hmg0
    have T : ∀ base : Heap, Lw.Top ⟨PySem.Challenge.pw_carrylog_k56_whole_lazy_edge, w, K, mg, base⟩ := fun base => ⟨rfl, h, KX, G, c⟩
    obtain ⟨fd, F⟩ := Lw.fd_law (T h)
    have hf : fa = Cy.gad K "law" := by
      have := (Lw.gf_law (T h)).mg
      exact Value.ref.inj (Option.some.inj (hmg.symm.trans this))
    subst hf
    exact ⟨K, fd, Lw.spLaw ⟨PySem.Challenge.pw_carrylog_k56_whole_lazy_edge, w, K, mg, h⟩, KX, fun s v => L2.FunD.bindsA (ps := ["_law_script"]) F (fun _ _ _ _ _ _ us hl => match us, hl with | [_], _ => rfl) s [v] rfl,
      fun H a ns hl _ hS => ⟨a, ns, rfl, hl, hS, fun _ => rfl⟩, fun base _ _ => Hd.ok_cx (Lw.ok_the_law (T base) F)⟩
